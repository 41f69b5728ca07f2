import PyProof.Rows.All
import Wide.All
import OpenK.AllK
import Wide.FinOn
import HandS.ForMost
import HandS.ForExc
import HandS.Wide
import HandS.CallSlots
import HandS.IsInst
import HandS.Style
import HandS.TupAny
import HandS.EndBits
import PySem.Challenge.RW_restlines_k20_line_row_holds
set_option Elab.async false
set_option linter.all false
set_option maxRecDepth 100000
set_option maxHeartbeats 4000000
/-! Dt: data semantics over the hand layer. -/
namespace Dt
open PySem PySem.Spec PyProof.Rows L2

abbrev St := L2.St
/-- data: scr is the script, a list that is read alone -/
inductive D where
  | non
  | bl (b : Bool)
  | int (i : Int)
  | str (x : Str)
  | lst (xs : List D)
  | tup (xs : List D)
  | scr (ns : List Int)
mutual
def D.py : D → PyData
  | .non => .none
  | .bl b => .bool b
  | .int i => .int i
  | .str x => .str x
  | .lst xs => .list (D.pys xs)
  | .tup xs => .tuple (D.pys xs)
  | .scr ns => .list (ns.map PyData.int)
def D.pys : List D → List PyData
  | [] => []
  | x :: xs => D.py x :: D.pys xs
end

/-! ### heaps that grow -/
def Ex (H H' : Hp) : Prop := ∀ a o, H a = some o → H' a = some o
theorem Ex.refl (H : Hp) : Ex H H := fun _ _ h => h
theorem Ex.trans {H H1 H2 : Hp} (a : Ex H H1) (b : Ex H1 H2) : Ex H H2 := fun x o h => b x o (a x o h)
theorem Ex.new {H : Hp} {p : Addr} {o : HO} (h : H p = none) : Ex H (upd H p o) := fun a u e => by
  rw [upd_ne (ne_of_none e h)]
  exact e
theorem Ex.nn {H H' : Hp} {p : Addr} (e : Ex H H') (h : H' p = none) : H p = none := by
  cases h1 : H p with
  | none => rfl
  | some o => rw [e p o h1] at h; cases h
theorem Ex.both {B H : Hp} {p : Addr} {o : HO} (e : Ex B H) : Ex (upd B p o) (upd H p o) := fun a u h => by
  by_cases q : a = p
  · subst q; rw [upd_same] at h ⊢; exact h
  · rw [upd_ne q] at h ⊢; exact e a u h
theorem Ex.right {B H : Hp} {p : Addr} {o : HO} (e : Ex B H) (h : B p = none) : Ex B (upd H p o) := fun a u q => by
  rw [upd_ne (ne_of_none q h)]; exact e a u q
theorem upd_some {H : Hp} {a p : Addr} {o : HO} (h : H a ≠ none) : upd H p o a ≠ none := by
  by_cases q : a = p
  · subst q; rw [upd_same]; simp
  · rw [upd_ne q]; exact h
theorem Ex.rd {H H' : Hp} {a : Addr} {u : HO} (e : Ex H H') (h : Rd H a u) : Rd H' a u := by
  rcases h with h | ⟨o, h⟩
  · exact Or.inl (e a _ h)
  · exact Or.inr ⟨o, e a _ h⟩
theorem Ex.sl {K : PySem.W.Frag} {H H' : Hp} {a : Addr} {xs : List V} (e : Ex H H') (h : SqL K H a xs) : SqL K H' a xs := by
  rcases h with h | h
  · exact Or.inl (e.rd h)
  · exact Or.inr h
theorem Ex.st {K : PySem.W.Frag} {H H' : Hp} {a : Addr} {xs : List V} (e : Ex H H') (h : SqT K H a xs) : SqT K H' a xs := by
  rcases h with h | h
  · exact Or.inl (e.rd h)
  · exact Or.inr h

/-! ### frozen data -/
mutual
inductive Fz (K : PySem.W.Frag) (B : Hp) : V → D → Prop
  | non : Fz K B .non .non
  | bl (b : Bool) : Fz K B (.bl b) (.bl b)
  | int (i : Int) : Fz K B (.int i) (.int i)
  | str (x : Str) : Fz K B (.str x) (.str x)
  | lst {a : Addr} {xs : List V} {ds : List D} : B a = some (.lst xs) → Fzs K B xs ds → Fz K B (.ref a) (.lst ds)
  | tup {a : Addr} {xs : List V} {ds : List D} : SqT K B a xs → Fzs K B xs ds → Fz K B (.ref a) (.tup ds)
  | scr {a : Addr} {ns : List Int} : SqL K B a (ns.map V.int) → Fz K B (.ref a) (.scr ns)
inductive Fzs (K : PySem.W.Frag) (B : Hp) : List V → List D → Prop
  | nil : Fzs K B [] []
  | cons {v : V} {vs : List V} {d : D} {ds : List D} : Fz K B v d → Fzs K B vs ds → Fzs K B (v :: vs) (d :: ds)
end
section
variable {K : PySem.W.Frag} {B B' H : Hp}
mutual
theorem Fz.mono {v : V} {d : D} (e : Ex B B') : Fz K B v d → Fz K B' v d
  | .non => .non
  | .bl b => .bl b
  | .int i => .int i
  | .str x => .str x
  | .lst h hs => .lst (e _ _ h) (Fzs.mono e hs)
  | .tup h hs => .tup (e.st h) (Fzs.mono e hs)
  | .scr h => .scr (e.sl h)
theorem Fzs.mono {vs : List V} {ds : List D} (e : Ex B B') : Fzs K B vs ds → Fzs K B' vs ds
  | .nil => .nil
  | .cons h hs => .cons (Fz.mono e h) (Fzs.mono e hs)
end
theorem dp_ints : ∀ ns : List Int, DpAll K H (ns.map V.int) (ns.map PyData.int)
  | [] => .nil
  | n :: ns => .cons (.int n) (dp_ints ns)
mutual
theorem Fz.dp {v : V} {d : D} (e : Ex B H) : Fz K B v d → Dp K H v d.py
  | .non => .non
  | .bl b => .bl b
  | .int i => .int i
  | .str x => .str x
  | .lst h hs => .lst (.inl (.inl (e _ _ h))) (Fzs.dp e hs)
  | .tup h hs => .tup (e.st h) (Fzs.dp e hs)
  | .scr h => .lst (e.sl h) (dp_ints _)
theorem Fzs.dp {vs : List V} {ds : List D} (e : Ex B H) : Fzs K B vs ds → DpAll K H vs (D.pys ds)
  | .nil => .nil
  | .cons h hs => .cons (Fz.dp e h) (Fzs.dp e hs)
end
theorem Fzs.len : ∀ {vs : List V} {ds : List D}, Fzs K B vs ds → vs.length = ds.length
  | _, _, .nil => rfl
  | _, _, .cons _ hs => by rw [List.length_cons, List.length_cons, Fzs.len hs]
theorem Fzs.get : ∀ {vs : List V} {ds : List D} {i : Nat} {d : D}, Fzs K B vs ds → ds[i]? = some d → ∃ v, vs[i]? = some v ∧ Fz K B v d
  | _, _, _, _, .nil, e => by simp at e
  | _, _, 0, _, .cons h _, e => by simp at e; subst e; exact ⟨_, rfl, h⟩
  | _, _, i + 1, d, .cons _ hs, e => by
    obtain ⟨v, h1, h2⟩ := Fzs.get (i := i) (d := d) hs (by simpa using e)
    exact ⟨v, by simpa using h1, h2⟩
theorem Fzs.getV : ∀ {vs : List V} {ds : List D} {i : Nat} {v : V}, Fzs K B vs ds → vs[i]? = some v → ∃ d, ds[i]? = some d ∧ Fz K B v d
  | _, _, _, _, .nil, e => by simp at e
  | _, _, 0, _, .cons h _, e => by simp at e; subst e; exact ⟨_, rfl, h⟩
  | _, _, i + 1, d, .cons _ hs, e => by
    obtain ⟨v, h1, h2⟩ := Fzs.getV (i := i) (v := d) hs (by simpa using e)
    exact ⟨v, by simpa using h1, h2⟩
theorem Fzs.append : ∀ {vs ws : List V} {ds es : List D}, Fzs K B vs ds → Fzs K B ws es → Fzs K B (vs ++ ws) (ds ++ es)
  | _, _, _, _, .nil, h => h
  | _, _, _, _, .cons a t, h => .cons a (Fzs.append t h)
theorem Fzs.set : ∀ {vs : List V} {ds : List D} {v : V} {d : D} (i : Nat), Fzs K B vs ds → Fz K B v d → Fzs K B (vs.set i v) (ds.set i d)
  | _, _, _, _, _, .nil, _ => .nil
  | _, _, _, _, 0, .cons _ t, h => .cons h t
  | _, _, _, _, i + 1, .cons a t, h => .cons a (Fzs.set i t h)
theorem Fzs.take : ∀ {vs : List V} {ds : List D} (n : Nat), Fzs K B vs ds → Fzs K B (vs.take n) (ds.take n)
  | _, _, 0, _ => .nil
  | _, _, _ + 1, .nil => .nil
  | _, _, n + 1, .cons a t => .cons a (Fzs.take n t)
theorem Fzs.drop : ∀ {vs : List V} {ds : List D} (n : Nat), Fzs K B vs ds → Fzs K B (vs.drop n) (ds.drop n)
  | _, _, 0, h => h
  | _, _, _ + 1, .nil => .nil
  | _, _, n + 1, .cons a t => Fzs.drop n t
theorem Fzs.reverse : ∀ {vs : List V} {ds : List D}, Fzs K B vs ds → Fzs K B vs.reverse ds.reverse
  | _, _, .nil => .nil
  | _, _, .cons a t => by
    rw [List.reverse_cons, List.reverse_cons]
    exact Fzs.append (Fzs.reverse t) (.cons a .nil)
theorem Fzs.ints : ∀ {vs : List V} {ns : List Int}, Fzs K B vs (ns.map D.int) → vs = ns.map V.int
  | _, [], .nil => rfl
  | _, n :: ns, .cons (.int _) t => by rw [List.map_cons, Fzs.ints t]
theorem Fzs.of_ints : ∀ (ns : List Int), Fzs K B (ns.map V.int) (ns.map D.int)
  | [] => .nil
  | n :: ns => .cons (.int n) (Fzs.of_ints ns)
end

/-! ### slots -/
inductive Slot where
  | un
  | fz (d : D)
  | ow (d : D)
  | io (d : D)
abbrev Env := List Slot

/-- an owned container at a: its items are frozen -/
def Ow (K : PySem.W.Frag) (B H : Hp) (a : Addr) : D → Prop
  | .lst ds => B a = none ∧ ∃ vs, H a = some (.lst vs) ∧ Fzs K B vs ds
  | _ => False
theorem Ow.hid {K : PySem.W.Frag} {B H : Hp} {a : Addr} {d : D} (h : Ow K B H a d) : B a = none := by
  cases d with
  | lst ds => exact h.1
  | _ => exact h.elim
theorem Ow.there {K : PySem.W.Frag} {B H : Hp} {a : Addr} {d : D} (h : Ow K B H a d) : H a ≠ none := by
  cases d with
  | lst ds => obtain ⟨_, vs, e, _⟩ := h; rw [e]; simp
  | _ => exact h.elim
theorem Ow.keep {K : PySem.W.Frag} {B H B' H' : Hp} {a : Addr} {d : D} (h : Ow K B H a d) (e : Ex B B') (h1 : B' a = none) (h2 : ∀ o, H a = some o → H' a = some o) : Ow K B' H' a d := by
  cases d with
  | lst ds => obtain ⟨_, vs, q, f⟩ := h; exact ⟨h1, vs, h2 _ q, f.mono e⟩
  | _ => exact h.elim
theorem Ow.fz {K : PySem.W.Frag} {B H : Hp} {a : Addr} {d : D} (h : Ow K B H a d) : ∃ o, H a = some o ∧ Fz K (upd B a o) (.ref a) d := by
  cases d with
  | lst ds =>
    obtain ⟨n, vs, q, f⟩ := h
    exact ⟨_, q, .lst upd_same (f.mono (Ex.new n))⟩
  | _ => exact h.elim

/-- the start of an activation: frozen part, heap, what may change, the addresses of the in-out parameters -/
structure Fr where
  B0 : Hp
  H0 : Hp
  A : Addr → Prop
  P : List (Option Addr)

def owned : Slot → Bool
  | .ow _ => true
  | .io _ => true
  | _ => false
def Slot.dat : Slot → D
  | .un => .non
  | .fz d => d
  | .ow d => d
  | .io d => d

def OwS (ρ : Env) (σ : St) (a : Addr) : Prop := ∃ (i : Nat) (s : Slot), ρ[i]? = some s ∧ owned s = true ∧ σ[i]? = some (some (V.ref a))

structure Lv (K : PySem.W.Frag) (F : Fr) (ρ : Env) (σ : St) (B H : Hp) : Prop where
  ex : Ex B H
  kept : ∀ a o, F.H0 a = some o → ¬ F.A a → H a = some o
  there : ∀ a, F.H0 a ≠ none → H a ≠ none
  exB : Ex F.B0 B
  hid : ∀ a, F.B0 a = none → F.H0 a ≠ none → ¬ F.A a → B a = none
  fz : ∀ (i : Nat) (d : D), ρ[i]? = some (Slot.fz d) → ∃ v, σ[i]? = some (some v) ∧ Fz K B v d
  ow : ∀ (i : Nat) (s : Slot), ρ[i]? = some s → owned s = true → ∃ a, σ[i]? = some (some (V.ref a)) ∧ Ow K B H a s.dat ∧ (F.A a ∨ F.H0 a = none)
  io : ∀ (i : Nat) (d : D), ρ[i]? = some (Slot.io d) → ∃ a, F.P[i]? = some (some a) ∧ σ[i]? = some (some (V.ref a))
  ne : ∀ (i j : Nat) (s t : Slot) (a : Addr), ρ[i]? = some s → owned s = true → ρ[j]? = some t → owned t = true → σ[i]? = some (some (V.ref a)) → σ[j]? = some (some (V.ref a)) → i = j
  len : ρ.length = σ.length

section
variable {K : PySem.W.Frag} {F : Fr} {ρ : Env} {σ : St} {B H B' H' : Hp} {t : Slot}
theorem Lv.hidOw (L : Lv K F ρ σ B H) {a : Addr} (h : OwS ρ σ a) : B a = none ∧ H a ≠ none := by
  obtain ⟨i, s, e, o, q⟩ := h
  obtain ⟨b, q', w, _⟩ := L.ow i s e o
  rw [q] at q'
  obtain rfl : a = b := by injection q' with z; injection z with z; injection z
  exact ⟨w.hid, w.there⟩
/-- a new object, frozen -/
theorem Lv.alloc (L : Lv K F ρ σ B H) {p : Addr} {o : HO} (h : H p = none) : Lv K F ρ σ (upd B p o) (upd H p o) := by
  have nB : B p = none := L.ex.nn h
  have eB : Ex B (upd B p o) := Ex.new nB
  refine ⟨L.ex.both, fun a u e n => ?_, fun a e => upd_some (L.there a e), L.exB.trans eB, fun a e n m => ?_, fun i d e => ?_, fun i s e w => ?_, L.io, L.ne, L.len⟩
  · have := L.kept a u e n
    rw [upd_ne (ne_of_none this h)]; exact this
  · have := L.hid a e n m
    by_cases q : a = p
    · subst q
      cases z : F.H0 a with
      | none => exact absurd z n
      | some u => rw [L.kept a u z m] at h; cases h
    · rw [upd_ne q]; exact this
  · obtain ⟨v, e1, f⟩ := L.fz i d e
    exact ⟨v, e1, f.mono eB⟩
  · obtain ⟨a, e1, f, g⟩ := L.ow i s e w
    have nap : a ≠ p := fun z => f.there (z ▸ h)
    refine ⟨a, e1, f.keep eB (by rw [upd_ne nap]; exact f.hid) (fun u q => by rw [upd_ne nap]; exact q), g⟩
/-- a new object, kept aside -/
theorem Lv.allocO (L : Lv K F ρ σ B H) {p : Addr} {o : HO} (h : H p = none) : Lv K F ρ σ B (upd H p o) := by
  have nB : B p = none := L.ex.nn h
  refine ⟨L.ex.right nB, fun a u e n => ?_, fun a e => upd_some (L.there a e), L.exB, L.hid, L.fz, fun i s e w => ?_, L.io, L.ne, L.len⟩
  · have := L.kept a u e n
    rw [upd_ne (ne_of_none this h)]; exact this
  · obtain ⟨a, e1, f, g⟩ := L.ow i s e w
    have nap : a ≠ p := fun z => f.there (z ▸ h)
    exact ⟨a, e1, f.keep (Ex.refl _) f.hid (fun u q => by rw [upd_ne nap]; exact q), g⟩
/-- something hidden that no slot owns, and that is new or may change, becomes frozen -/
theorem Lv.freeze (L : Lv K F ρ σ B H) {p : Addr} {o : HO} (h : H p = some o) (n : B p = none) (g : F.A p ∨ F.H0 p = none) (no : ¬ OwS ρ σ p) : Lv K F ρ σ (upd B p o) H := by
  have eB : Ex B (upd B p o) := Ex.new n
  refine ⟨fun a u q => ?_, L.kept, L.there, L.exB.trans eB, fun a e m k => ?_, fun i d e => ?_, fun i s e w => ?_, L.io, L.ne, L.len⟩
  · by_cases z : a = p
    · subst z; rw [upd_same] at q; rw [h]; exact q
    · rw [upd_ne z] at q; exact L.ex a u q
  · by_cases z : a = p
    · subst z
      rcases g with g | g
      · exact absurd g k
      · exact absurd g m
    · rw [upd_ne z]; exact L.hid a e m k
  · obtain ⟨v, e1, f⟩ := L.fz i d e
    exact ⟨v, e1, f.mono eB⟩
  · obtain ⟨a, e1, f, g⟩ := L.ow i s e w
    have nap : a ≠ p := fun z => no ⟨i, s, e, w, z ▸ e1⟩
    exact ⟨a, e1, f.keep eB (by rw [upd_ne nap]; exact f.hid) (fun u q => q), g⟩
/-- forgetting or weakening slots: s at i to t, where t is not owned -/
theorem Lv.slot (L : Lv K F ρ σ B H) {i : Nat} {t : Slot} (hn : owned t = false) (hf : ∀ d, t = .fz d → i < ρ.length → ∃ v, σ[i]? = some (some v) ∧ Fz K B v d) : Lv K F (ρ.set i t) σ B H := by
  have get : ∀ {j : Nat} {s : Slot}, (ρ.set i t)[j]? = some s → (j = i ∧ s = t ∧ i < ρ.length) ∨ ρ[j]? = some s := fun {j s} e => by
    rw [List.getElem?_set] at e
    split at e
    · split at e
      · rename_i h1 h2; injection e with e; exact .inl ⟨h1.symm, e.symm, h2⟩
      · cases e
    · exact .inr e
  refine ⟨L.ex, L.kept, L.there, L.exB, L.hid, fun j d e => ?_, fun j s e w => ?_, fun j d e => ?_, fun j k s u a e1 w1 e2 w2 q1 q2 => ?_, by rw [List.length_set]; exact L.len⟩
  · rcases get e with ⟨rfl, z, l⟩ | e
    · exact hf d z.symm l
    · exact L.fz j d e
  · rcases get e with ⟨rfl, z, l⟩ | e
    · rw [z, hn] at w; cases w
    · exact L.ow j s e w
  · rcases get e with ⟨rfl, z, l⟩ | e
    · rw [← z] at hn; cases hn
    · exact L.io j d e
  · rcases get e1 with ⟨rfl, z, l⟩ | e1
    · rw [z, hn] at w1; cases w1
    · rcases get e2 with ⟨rfl, z, l⟩ | e2
      · rw [z, hn] at w2; cases w2
      · exact L.ne j k s u a e1 w1 e2 w2 q1 q2
/-- a slot that owned is frozen -/
theorem Lv.frz (L : Lv K F ρ σ B H) {i : Nat} {d : D} (e : ρ[i]? = some (.ow d)) : ∃ B' v, Ex B B' ∧ σ[i]? = some (some v) ∧ Fz K B' v d ∧ Lv K F (ρ.set i (.fz d)) σ B' H := by
  obtain ⟨a, e1, f, g⟩ := L.ow i _ e rfl
  obtain ⟨o, h1, h2⟩ := f.fz
  have l : i < ρ.length := (List.getElem?_eq_some_iff.mp e).1
  have L1 : Lv K F (ρ.set i .un) σ B H := L.slot rfl (fun d z => nomatch z)
  have L2 := L1.freeze (p := a) h1 f.hid g (fun ⟨j, s, e2, w, q⟩ => by
    by_cases hij : i = j
    · subst hij
      rw [List.getElem?_set_self l] at e2
      injection e2 with e2; subst e2; cases w
    · rw [List.getElem?_set_ne hij] at e2
      exact hij (L.ne i j _ s a e rfl e2 w e1 q))
  refine ⟨_, _, Ex.new f.hid, e1, h2, ?_⟩
  have L3 := L2.slot (i := i) (t := .fz d) rfl (fun d' z _ => by injection z with z; subst z; exact ⟨_, e1, h2⟩)
  rw [List.set_set] at L3
  exact L3
theorem Lv.free (L : Lv K F ρ σ B H) {p : Addr} (h : H p = none) : F.H0 p = none := by
  cases q : F.H0 p with
  | none => rfl
  | some o => exact absurd h (L.there p (by rw [q]; simp))
theorem get_set {ρ : Env} {i j : Nat} {t s : Slot} (e : (ρ.set i t)[j]? = some s) : (j = i ∧ s = t ∧ i < ρ.length) ∨ (j ≠ i ∧ ρ[j]? = some s) := by
  by_cases h : i = j
  · subst h
    by_cases l : i < ρ.length
    · rw [List.getElem?_set_self l] at e
      injection e with e; exact .inl ⟨rfl, e.symm, l⟩
    · rw [List.getElem?_eq_none (by rw [List.length_set]; omega)] at e; cases e
  · rw [List.getElem?_set_ne h] at e
    exact .inr ⟨fun z => h z.symm, e⟩
/-- a slot that holds a is marked as its owner -/
theorem Lv.own (L : Lv K F ρ σ B H) {i : Nat} {t : Slot} {a : Addr} (e : σ[i]? = some (some (V.ref a))) (w : Ow K B H a t.dat) (g : F.A a ∨ F.H0 a = none) (no : ∀ j s, ρ[j]? = some s → owned s = true → σ[j]? = some (some (V.ref a)) → j = i)
    (ht : owned t = true) (hp : ∀ d, t = .io d → F.P[i]? = some (some a)) : Lv K F (ρ.set i t) σ B H := by
  have inj : ∀ {b : Addr}, σ[i]? = some (some (V.ref b)) → b = a := fun {b} q => by
    rw [e] at q; injection q with q; injection q with q; injection q with q; exact q.symm
  refine ⟨L.ex, L.kept, L.there, L.exB, L.hid, fun j d e1 => ?_, fun j s e1 w1 => ?_, fun j d e1 => ?_, fun j k s u b e1 w1 e2 w2 q1 q2 => ?_, by rw [List.length_set]; exact L.len⟩
  · rcases get_set e1 with ⟨rfl, z, l⟩ | ⟨n, e1⟩
    · rw [← z] at ht; cases ht
    · exact L.fz j d e1
  · rcases get_set e1 with ⟨rfl, z, l⟩ | ⟨n, e1⟩
    · rw [z]; exact ⟨a, e, w, g⟩
    · exact L.ow j s e1 w1
  · rcases get_set e1 with ⟨rfl, z, l⟩ | ⟨n, e1⟩
    · exact ⟨a, hp d z.symm, e⟩
    · exact L.io j d e1
  · rcases get_set e1 with ⟨rfl, z, l⟩ | ⟨n, e1⟩
    · rcases get_set e2 with ⟨rfl, z, l⟩ | ⟨n2, e2⟩
      · rfl
      · obtain rfl := inj q1
        exact absurd (no k u e2 w2 q2) n2
    · rename_i e1'
      rcases get_set e2 with ⟨z1, z, l⟩ | ⟨n2, e2⟩
      · rw [z1] at q2
        obtain rfl := inj q2
        rw [z1]
        exact no j s e1 w1 q1
      · exact L.ne j k s u b e1 w1 e2 w2 q1 q2
/-- a name is stored: its slot is emptied, then may be told anew -/
theorem Lv.store (L : Lv K F ρ σ B H) {i : Nat} {v : V} (hn : owned t = false) (hf : ∀ d, t = .fz d → Fz K B v d) : Lv K F (ρ.set i t) (σ.set i (some v)) B H := by
  have len : (ρ.set i t).length = (σ.set i (some v)).length := by rw [List.length_set, List.length_set]; exact L.len
  have sg : ∀ {j : Nat}, j ≠ i → (σ.set i (some v))[j]? = σ[j]? := fun {j} h => List.getElem?_set_ne (Ne.symm h)
  refine ⟨L.ex, L.kept, L.there, L.exB, L.hid, fun j d e1 => ?_, fun j s e1 w1 => ?_, fun j d e1 => ?_, fun j k s u b e1 w1 e2 w2 q1 q2 => ?_, len⟩
  · rcases get_set e1 with ⟨rfl, z, l⟩ | ⟨n, e1⟩
    · exact ⟨v, List.getElem?_set_self (by rw [← L.len]; exact l), hf d z.symm⟩
    · rw [sg n]; exact L.fz j d e1
  · rcases get_set e1 with ⟨rfl, z, l⟩ | ⟨n, e1⟩
    · rw [z, hn] at w1; cases w1
    · rw [sg n]; exact L.ow j s e1 w1
  · rcases get_set e1 with ⟨rfl, z, l⟩ | ⟨n, e1⟩
    · rw [← z] at hn; cases hn
    · rw [sg n]; exact L.io j d e1
  · rcases get_set e1 with ⟨rfl, z, l⟩ | ⟨n, e1⟩
    · rw [z, hn] at w1; cases w1
    · rcases get_set e2 with ⟨rfl, z, l⟩ | ⟨n2, e2⟩
      · rw [z, hn] at w2; cases w2
      · rw [sg n] at q1; rw [sg n2] at q2
        exact L.ne j k s u b e1 w1 e2 w2 q1 q2
/-- what an owned container holds is changed -/
theorem Lv.write (L : Lv K F ρ σ B H) {i : Nat} {s t : Slot} {a : Addr} {o : HO} (e : ρ[i]? = some s) (ho : owned s = true) (q : σ[i]? = some (some (V.ref a))) (ht : (∃ d, s = .ow d ∧ ∃ d', t = .ow d') ∨ ∃ d, s = .io d ∧ ∃ d', t = .io d') (w : Ow K B (upd H a o) a t.dat) : Lv K F (ρ.set i t) σ B (upd H a o) := by
  obtain ⟨a', q', w0, g⟩ := L.ow i s e ho
  obtain rfl : a = a' := by rw [q] at q'; injection q' with z; injection z with z; injection z
  have nB := w0.hid
  have L1 : Lv K F (ρ.set i .un) σ B (upd H a o) := by
    refine ⟨L.ex.right nB, fun b u e1 n => ?_, fun b e1 => upd_some (L.there b e1), L.exB, L.hid, fun j d e1 => ?_, fun j u e1 w1 => ?_, fun j d e1 => ?_, fun j k u x b e1 w1 e2 w2 q1 q2 => ?_, by rw [List.length_set]; exact L.len⟩
    · have nb : b ≠ a := fun z => by
        subst z
        rcases g with g | g
        · exact n g
        · rw [g] at e1; cases e1
      rw [upd_ne nb]; exact L.kept b u e1 n
    · rcases get_set e1 with ⟨rfl, z, l⟩ | ⟨n, e1⟩
      · cases z
      · exact L.fz j d e1
    · rcases get_set e1 with ⟨rfl, z, l⟩ | ⟨n, e1⟩
      · rw [z] at w1; cases w1
      · obtain ⟨b, q1, w2, g2⟩ := L.ow j u e1 w1
        have nb : b ≠ a := fun z => by subst z; exact n (L.ne j i u s b e1 w1 e ho q1 q)
        exact ⟨b, q1, w2.keep (Ex.refl _) w2.hid (fun x y => by rw [upd_ne nb]; exact y), g2⟩
    · rcases get_set e1 with ⟨rfl, z, l⟩ | ⟨n, e1⟩
      · cases z
      · exact L.io j d e1
    · rcases get_set e1 with ⟨rfl, z, l⟩ | ⟨n, e1⟩
      · rw [z] at w1; cases w1
      · rcases get_set e2 with ⟨rfl, z, l⟩ | ⟨n2, e2⟩
        · rw [z] at w2; cases w2
        · exact L.ne j k u x b e1 w1 e2 w2 q1 q2
  have L2 := L1.own (i := i) (t := t) q w g (fun j u e1 w1 q1 => by
    rcases get_set e1 with ⟨rfl, z, l⟩ | ⟨n, e1⟩
    · rfl
    · exact L.ne j i u s a e1 w1 e ho q1 q) (by rcases ht with ⟨_, _, _, z⟩ | ⟨_, _, _, z⟩ <;> rw [z] <;> rfl) (fun d z => by
      rcases ht with ⟨_, _, _, y⟩ | ⟨d0, y, _, _⟩
      · rw [y] at z; cases z
      · obtain ⟨b, p1, p2⟩ := L.io i d0 (by rw [e, y])
        rw [q] at p2
        obtain rfl : a = b := by injection p2 with z; injection z with z; injection z
        exact p1)
  rw [List.set_set] at L2
  exact L2
/-- the slots' values go on -/
theorem Lv.nest (L : Lv K F ρ σ B H) : Lv K ⟨B, H, OwS ρ σ, F.P⟩ ρ σ B H :=
  ⟨L.ex, fun _ _ h _ => h, fun _ h => h, Ex.refl _, fun _ h _ _ => h, L.fz, fun i s e w => by
    obtain ⟨a, e1, f, _⟩ := L.ow i s e w
    exact ⟨a, e1, f, .inl ⟨i, s, e, w, e1⟩⟩, L.io, L.ne, L.len⟩
theorem Lv.back (L : Lv K F ρ σ B H) {ρ' : Env} {σ' : St} (M : Lv K ⟨B, H, OwS ρ σ, F.P⟩ ρ' σ' B' H') : Lv K F ρ' σ' B' H' := by
  have own : ∀ a, OwS ρ σ a → F.A a ∨ F.H0 a = none := fun a ⟨i, s, e, w, q⟩ => by
    obtain ⟨b, q', _, g⟩ := L.ow i s e w
    rw [q] at q'
    obtain rfl : a = b := by injection q' with z; injection z with z; injection z
    exact g
  refine ⟨M.ex, fun a o e n => ?_, fun a e => M.there a (L.there a e), L.exB.trans M.exB, fun a e n k => ?_, M.fz, fun i s e w => ?_, M.io, M.ne, M.len⟩
  · refine M.kept a o (L.kept a o e n) fun z => ?_
    rcases own a z with q | q
    · exact n q
    · rw [q] at e; cases e
  · have h1 := L.hid a e n k
    refine M.hid a h1 ?_ fun z => ?_
    · cases q : F.H0 a with
      | none => exact absurd q n
      | some u => have := L.kept a u q k; intro z; have z' : H a = none := z; rw [this] at z'; cases z'
    · rcases own a z with q | q
      · exact k q
      · exact n q
  · obtain ⟨a, e1, f, g⟩ := M.ow i s e w
    refine ⟨a, e1, f, ?_⟩
    rcases g with g | g
    · exact own a g
    · by_cases k : F.A a
      · exact .inl k
      · refine .inr ?_
        cases q : F.H0 a with
        | none => rfl
        | some u => have z := L.kept a u q k; rw [show H a = none from g] at z; cases z
end
end Dt
/-! Dt: the meaning of code as a function on slots, the judgements, their glue. -/
namespace Dt
open PySem PySem.Spec PyProof.Rows L2

/-! ### outcomes -/
inductive Rs (α : Type) where
  | ok (a : α) (ρ : Env)
  | rz (c : Str) (ρ : Env)
  | fail
abbrev M (α : Type) : Type := Env → Rs α
def M.pure {α : Type} (a : α) : M α := fun ρ => .ok a ρ
def M.bind {α β : Type} (f : M α) (g : α → M β) : M β := fun ρ => match f ρ with
  | .ok a ρ' => g a ρ'
  | .rz c ρ' => .rz c ρ'
  | .fail => .fail
def M.fail {α : Type} : M α := fun _ => .fail
def M.opt {α : Type} (o : Option α) : M α := fun ρ => match o with
  | some a => .ok a ρ
  | none => .fail
def M.raise {α : Type} (c : Str) : M α := fun ρ => .rz c ρ
/-- flow of statements -/
inductive Fl where
  | nx
  | bk
  | ct
  | rt (d : D) (o : Bool)

def cv (X : Cx) (c : Str) : Value := (X.mg c).getD .none

/-! ### wp as a reading -/
def we (X : Cx) (e : Expr) : TE := fun σ H Q => ∀ (pins : List (Addr × Obj)) (s : Shared), Inv X pins σ H s → wpAny (model X.prog X.w) X.A (eval e X.env) (EP X pins σ Q) X.xe s
def wt (X : Cx) (e : Expr) : TT := fun σ H Q => ∀ (pins : List (Addr × Obj)) (s : Shared), Inv X pins σ H s → wpAny (model X.prog X.w) X.A (isTrue e X.env (eval e X.env)) (TP X pins σ Q) X.xe s
def wa (X : Cx) (es : List Expr) : TA := fun σ H Q => ∀ (pos : Pos) (pins : List (Addr × Obj)) (s : Shared), Inv X pins σ H s → wpAny (model X.prog X.w) X.A (spliced (backTo pos (starEach es X.env))) (AP X pins σ Q) X.xe s
def ws (X : Cx) (st : Stmt) : TS := fun D σ H => ∀ (pins : List (Addr × Obj)) (s : Shared), Inv X pins σ H s → wpAny (model X.prog X.w) X.A (exec st X.env) (SP X pins D) X.xe s
def wss (X : Cx) (st : List Stmt) : TS := fun D σ H => ∀ (pins : List (Addr × Obj)) (s : Shared), Inv X pins σ H s → wpAny (model X.prog X.w) X.A (execs st X.env) (SP X pins D) X.xe s
section
variable {X : Cx} {e : Expr} {es : List Expr} {st : Stmt} {sts : List Stmt} {σ : St} {H : Hp}
theorem pe_we : PE X e (we X e) := ⟨fun pins s _ _ _ I h => h pins s I⟩
theorem pt_wt : PT X e (wt X e) := ⟨fun pins s _ _ _ I h => h pins s I⟩
theorem pa_wa : PA X es (wa X es) := ⟨fun pos pins s _ _ _ I h => h pos pins s I⟩
theorem ps_ws : PS X st (ws X st) := ⟨fun pins s _ _ _ I h => h pins s I⟩
theorem pss_wss : PSs X sts (wss X sts) := ⟨fun pins s _ _ _ I h => h pins s I⟩
theorem PE.we {t : TE} {Q : VK} (h : PE X e t) (q : t σ H Q) : we X e σ H Q := fun pins s I => h.run pins s σ H Q I q
theorem PT.wt {t : TT} {Q : Bool → Hp → Prop} (h : PT X e t) (q : t σ H Q) : wt X e σ H Q := fun pins s I => h.run pins s σ H Q I q
theorem PA.wa {t : TA} {Q : List V → Hp → Prop} (h : PA X es t) (q : t σ H Q) : wa X es σ H Q := fun pos pins s I => h.run pos pins s σ H Q I q
theorem PS.ws {t : TS} {N : Ends} (h : PS X st t) (q : t N σ H) : ws X st N σ H := fun pins s I => h.run pins s σ H N I q
theorem PSs.wss {t : TS} {N : Ends} (h : PSs X sts t) (q : t N σ H) : wss X sts N σ H := fun pins s I => h.run pins s σ H N I q
theorem we_mono {Q Q' : VK} (h : we X e σ H Q) (k : ∀ v H', Q v H' → Q' v H') : we X e σ H Q' := fun pins s I =>
  thn (h pins s I) fun _ _ ⟨v, H', I', r, q⟩ => ⟨v, H', I', r, k v H' q⟩
end

/-! ### what is wanted behind -/
def Post {α : Type} (X : Cx) (W : WX) (F : Fr) (σ : St) (B : Hp) (r : Rs α) (G : α → Env → Hp → Hp → Prop) : Prop :=
  match r with
  | .ok a ρ' => ∀ B' H', Ex B B' → Lv X.K F ρ' σ B' H' → G a ρ' B' H'
  | .rz c ρ' => ∀ B' H', Ex B B' → Lv X.K F ρ' σ B' H' → W (cv X c) none σ H'
  | .fail => False
section
variable {X : Cx} {W : WX} {F : Fr} {σ : St} {B B1 : Hp} {α β : Type} {ρ : Env}
theorem Post.weak {r : Rs α} {G : α → Env → Hp → Hp → Prop} (h : Post X W F σ B r G) (e : Ex B B1) : Post X W F σ B1 r G := by
  cases r with
  | ok a ρ' => exact fun B' H' e' L => h B' H' (e.trans e') L
  | rz c ρ' => exact fun B' H' e' L => h B' H' (e.trans e') L
  | fail => exact h
theorem Post.imp {r : Rs α} {G G' : α → Env → Hp → Hp → Prop} (h : Post X W F σ B r G) (k : ∀ a ρ' B' H', Ex B B' → Lv X.K F ρ' σ B' H' → G a ρ' B' H' → G' a ρ' B' H') : Post X W F σ B r G' := by
  cases r with
  | ok a ρ' => exact fun B' H' e L => k a ρ' B' H' e L (h B' H' e L)
  | rz c ρ' => exact h
  | fail => exact h
theorem Post.bind {f : M α} {g : α → M β} {G : β → Env → Hp → Hp → Prop} (h : Post X W F σ B (M.bind f g ρ) G) : Post X W F σ B (f ρ) (fun a ρ1 B1 _ => Post X W F σ B1 (g a ρ1) G) := by
  unfold M.bind at h
  cases q : f ρ with
  | ok a ρ' => rw [q] at h; exact fun B' H' e L => Post.weak h e
  | rz c ρ' => rw [q] at h; exact h
  | fail => rw [q] at h; exact h
theorem Post.opt {o : Option α} {G : α → Env → Hp → Hp → Prop} (h : Post X W F σ B (M.opt o ρ) G) : ∃ a, o = some a ∧ ∀ B' H', Ex B B' → Lv X.K F ρ σ B' H' → G a ρ B' H' := by
  cases o with
  | none => exact h.elim
  | some a => exact ⟨a, rfl, h⟩
end

/-! ### the judgements -/
/-- the value of an expression, frozen -/
def EV (X : Cx) (W : WX) (e : Expr) (f : M D) : Prop := ∀ (F : Fr) (ρ : Env) (σ : St) (B H : Hp) (Q : VK), Lv X.K F ρ σ B H →
  Post X W F σ B (f ρ) (fun d _ B' H' => ∀ v, Fz X.K B' v d → Q v H') → we X e σ H Q
def ET (X : Cx) (W : WX) (e : Expr) (f : M Bool) : Prop := ∀ (F : Fr) (ρ : Env) (σ : St) (B H : Hp) (Q : Bool → Hp → Prop), Lv X.K F ρ σ B H →
  Post X W F σ B (f ρ) (fun b _ _ H' => Q b H') → wt X e σ H Q
def EA (X : Cx) (W : WX) (es : List Expr) (f : M (List D)) : Prop := ∀ (F : Fr) (ρ : Env) (σ : St) (B H : Hp) (Q : List V → Hp → Prop), Lv X.K F ρ σ B H →
  Post X W F σ B (f ρ) (fun ds _ B' H' => ∀ vs, Fzs X.K B' vs ds → Q vs H') → wa X es σ H Q
/-- a value, owned or frozen -/
def VO (K : PySem.W.Frag) (F : Fr) (ρ : Env) (σ : St) (B H : Hp) (v : V) (d : D) : Bool → Prop
  | true => ∃ a, v = .ref a ∧ Ow K B H a d ∧ (F.A a ∨ F.H0 a = none) ∧ ¬ OwS ρ σ a
  | false => Fz K B v d
def EO (X : Cx) (W : WX) (e : Expr) (f : M (D × Bool)) : Prop := ∀ (F : Fr) (ρ : Env) (σ : St) (B H : Hp) (Q : VK), Lv X.K F ρ σ B H →
  Post X W F σ B (f ρ) (fun p ρ' B' H' => ∀ v, VO X.K F ρ' σ B' H' v p.1 p.2 → Q v H') → we X e σ H Q
/-- statements -/
def PostS (X : Cx) (W : WX) (F : Fr) (B : Hp) (r : Rs Fl) (N : Ends) : Prop :=
  match r with
  | .ok .nx ρ' => ∀ σ' B' H', Ex B B' → Lv X.K F ρ' σ' B' H' → N.nx σ' H'
  | .ok .bk ρ' => ∀ σ' B' H', Ex B B' → Lv X.K F ρ' σ' B' H' → N.bk σ' H'
  | .ok .ct ρ' => ∀ σ' B' H', Ex B B' → Lv X.K F ρ' σ' B' H' → N.ct σ' H'
  | .ok (.rt d o) ρ' => ∀ v σ' B' H', Ex B B' → Lv X.K F ρ' σ' B' H' → VO X.K F ρ' σ' B' H' v d o → N.rt v H'
  | .rz c ρ' => ∀ σ' B' H', Ex B B' → Lv X.K F ρ' σ' B' H' → W (cv X c) none σ' H'
  | .fail => False
def SV (X : Cx) (W : WX) (st : Stmt) (f : M Fl) : Prop := ∀ (F : Fr) (ρ : Env) (σ : St) (B H : Hp) (N : Ends), Lv X.K F ρ σ B H → PostS X W F B (f ρ) N → ws X st N σ H
def SVs (X : Cx) (W : WX) (sts : List Stmt) (f : M Fl) : Prop := ∀ (F : Fr) (ρ : Env) (σ : St) (B H : Hp) (N : Ends), Lv X.K F ρ σ B H → PostS X W F B (f ρ) N → wss X sts N σ H
theorem PostS.weak {X : Cx} {W : WX} {F : Fr} {B B1 : Hp} {r : Rs Fl} {N : Ends} (h : PostS X W F B r N) (e : Ex B B1) : PostS X W F B1 r N := by
  cases r with
  | ok a ρ' =>
    cases a with
    | nx => exact fun σ' B' H' e' L => h σ' B' H' (e.trans e') L
    | bk => exact fun σ' B' H' e' L => h σ' B' H' (e.trans e') L
    | ct => exact fun σ' B' H' e' L => h σ' B' H' (e.trans e') L
    | rt d o => exact fun v σ' B' H' e' L => h v σ' B' H' (e.trans e') L
  | rz c ρ' => exact fun σ' B' H' e' L => h σ' B' H' (e.trans e') L
  | fail => exact h
/-- an expression's outcome, then a statement's -/
theorem PostS.bind {X : Cx} {W : WX} {F : Fr} {B : Hp} {σ : St} {α : Type} {ρ : Env} {f : M α} {g : α → M Fl} {N : Ends} (h : PostS X W F B (M.bind f g ρ) N) : Post X W F σ B (f ρ) (fun a ρ1 B1 _ => PostS X W F B1 (g a ρ1) N) := by
  unfold M.bind at h
  cases q : f ρ with
  | ok a ρ' => rw [q] at h; exact fun B' H' e L => PostS.weak h e
  | rz c ρ' => rw [q] at h; exact fun B' H' e L => h σ B' H' e L
  | fail => rw [q] at h; exact h

/-! ### growth by one object at most -/
def Grow (K : PySem.W.Frag) (B H : Hp) (d : D) (Q : VK) : Prop := (∀ v, Fz K B v d → Q v H) ∧ ∀ p o v, H p = none → Fz K (upd B p o) v d → Q v (upd H p o)
theorem Lv.grow {K : PySem.W.Frag} {F : Fr} {ρ : Env} {σ : St} {B H : Hp} {d : D} {Q : VK} (L : Lv K F ρ σ B H) (h : ∀ B' H', Ex B B' → Lv K F ρ σ B' H' → ∀ v, Fz K B' v d → Q v H') : Grow K B H d Q :=
  ⟨fun v f => h B H (Ex.refl _) L v f, fun p o v n f => h _ _ (Ex.new (L.ex.nn n)) (L.alloc n) v f⟩

/-! ### expressions -/
section
variable {X : Cx} {W : WX} {e a b c : Expr} {pos : Pos}
/-- a name that is read -/
def mVar (i : Nat) : M D := fun ρ => match ρ[i]? with
  | some (.fz d) => .ok d ρ
  | some (.ow d) => .ok d (ρ.set i (.fz d))
  | _ => .fail
theorem ev_var (i : Nat) {x : Str} (hN : X.N[i]? = some x := by rfl) (hv : Vis X.env.scope x := by first | exact Or.inl rfl | exact Or.inr (Or.inl rfl) | exact Or.inr (Or.inr rfl)) (hd : (x == ("__debug__" : Str)) = false := by decide)
    (hcd : (x == ("__classdict__" : Str)) = false := by decide) : EV X W (.Name x pos) (mVar i) := by
  intro F ρ σ B H Q L P
  refine PE.we (pe_var hN hv hd hcd) ?_
  unfold mVar at P
  split at P
  · rename_i d h
    obtain ⟨v, e1, f⟩ := L.fz i d h
    exact ⟨v, e1, P B H (Ex.refl _) L v f⟩
  · rename_i d h
    obtain ⟨B', v, e1, e2, f, L'⟩ := L.frz h
    exact ⟨v, e2, P B' H e1 L' v f⟩
  · exact P.elim
/-- a constant -/
theorem ev_c {d : D} {v : V} (h : PE X e (tC v)) (hf : ∀ B, Fz X.K B v d) : EV X W e (M.pure d) := by
  intro F ρ σ B H Q L P
  exact PE.we h (P B H (Ex.refl _) L v (hf B))
theorem ev_int {i : Int} {j : Nat} : EV X W (.Constant (.int i) j pos) (M.pure (.int i)) := ev_c pe_int fun _ => .int i
theorem ev_str {x : Str} {j : Nat} : EV X W (.Constant (.str x) j pos) (M.pure (.str x)) := ev_c pe_str fun _ => .str x
theorem ev_bl {k : Bool} {j : Nat} : EV X W (.Constant (.bool k) j pos) (M.pure (.bl k)) := ev_c pe_bl fun _ => .bl k
theorem ev_non {j : Nat} : EV X W (.Constant .none j pos) (M.pure .non) := ev_c pe_non fun _ => .non
/-- a module's constant -/
theorem ev_glob {x : Str} {v : V} {u : Value} {d : D} (hg : Gl X x) (hm : X.mg x = some u) (r : RelV v u) (hf : ∀ B, Fz X.K B v d) (hd : (x == ("__debug__" : Str)) = false := by decide) : EV X W (.Name x pos) (M.pure d) := ev_c (pe_glob hg hm r hd) hf

/-- two operands -/
def mBin (g : D → D → Option D) (f1 f2 : M D) : M D := M.bind f1 fun x => M.bind f2 fun y => M.opt (g x y)
def OpD (K : PySem.W.Frag) (r : R2) (g : D → D → Option D) : Prop := ∀ (x y : V) (dx dy d : D) (B H : Hp) (Q : VK), Ex B H → Fz K B x dx → Fz K B y dy → g dx dy = some d → Grow K B H d Q → r x y H Q
theorem ev_two {r : R2} {g : D → D → Option D} {f1 f2 : M D} (h : PE X e (tOp r (we X a) (we X b))) (hr : OpD X.K r g) (ha : EV X W a f1) (hb : EV X W b f2) : EV X W e (mBin g f1 f2) := by
  intro F ρ σ B H Q L P
  refine PE.we h ?_
  refine ha F ρ σ B H _ L ((Post.bind P).imp fun dx ρ1 B1 H1 e1 L1 P1 x fx => ?_)
  refine hb F ρ1 σ B1 H1 _ L1 ((Post.bind P1).imp fun dy ρ2 B2 H2 e2 L2 P2 y fy => ?_)
  obtain ⟨d, hd, k⟩ := P2.opt
  exact hr x y dx dy d B2 H2 Q L2.ex (fx.mono e2) fy hd (L2.grow k)
theorem ev_op {op : Operator} {r : R2} {g : D → D → Option D} {f1 f2 : M D} (ho : OpR X (binaryOp op) r) (hr : OpD X.K r g) (ha : EV X W a f1) (hb : EV X W b f2) : EV X W (.BinOp a op b pos) (mBin g f1 f2) :=
  ev_two (pe_op ho pe_we pe_we) hr ha hb
theorem ev_cmp {op : CmpOp} {r : R2} {g : D → D → Option D} {f1 f2 : M D} (ho : OpR X (compareOp op) r) (hr : OpD X.K r g) (ha : EV X W a f1) (hb : EV X W b f2) (hm : behindInMarks op b = false := by first | exact nomark _ | rfl) : EV X W (.Compare a [op] [b] pos) (mBin g f1 f2) :=
  ev_two (pe_cmpR ho pe_we pe_we hm) hr ha hb
theorem ev_ix {r : R2} {g : D → D → Option D} {f1 f2 : M D} (ho : IxR X r) (hr : OpD X.K r g) (ha : EV X W a f1) (hb : EV X W b f2) (hs : PlainIx b := by exact fun _ _ => rfl) : EV X W (.Subscript a b pos) (mBin g f1 f2) :=
  ev_two (pe_ix ho pe_we pe_we hs) hr ha hb
/-- one operand -/
def mUn (g : D → Option D) (f1 : M D) : M D := M.bind f1 fun x => M.opt (g x)
def UnD (K : PySem.W.Frag) (r : V → Hp → VK → Prop) (g : D → Option D) : Prop := ∀ (x : V) (dx d : D) (B H : Hp) (Q : VK), Ex B H → Fz K B x dx → g dx = some d → Grow K B H d Q → r x H Q
theorem ev_un {op : UnaryOp} {r : V → Hp → VK → Prop} {g : D → Option D} {f1 : M D} (ho : UnR X (unaryOp op) r) (hr : UnD X.K r g) (ha : EV X W a f1) : EV X W (.UnaryOp op a pos) (mUn g f1) := by
  intro F ρ σ B H Q L P
  refine PE.we (pe_un ho pe_we) ?_
  refine ha F ρ σ B H _ L ((Post.bind P).imp fun dx ρ1 B1 H1 e1 L1 P1 x fx => ?_)
  obtain ⟨d, hd, k⟩ := P1.opt
  exact hr x dx d B1 H1 Q L1.ex fx hd (L1.grow k)
/-- arguments -/
def mNil : M (List D) := M.pure []
def mCons (f : M D) (g : M (List D)) : M (List D) := M.bind f fun x => M.bind g fun xs => M.pure (x :: xs)
theorem ea_nil : EA X W [] mNil := fun F ρ σ B H Q L P => PA.wa pa_nil (P B H (Ex.refl _) L [] .nil)
theorem ea_cons {es : List Expr} {f : M D} {g : M (List D)} (ha : EV X W e f) (hr : EA X W es g) (hs : starEach (e :: es) X.env = (false, eval e X.env) :: starEach es X.env := by rfl) : EA X W (e :: es) (mCons f g) := by
  intro F ρ σ B H Q L P
  refine PA.wa (pa_cons pe_we pa_wa hs) ?_
  refine ha F ρ σ B H _ L ((Post.bind P).imp fun dx ρ1 B1 H1 e1 L1 P1 x fx => ?_)
  refine hr F ρ1 σ B1 H1 _ L1 ((Post.bind P1).imp fun ds ρ2 B2 H2 e2 L2 P2 xs fs => ?_)
  exact P2 B2 H2 (Ex.refl _) L2 _ (.cons (fx.mono e2) fs)
/-- a call of a builtin -/
def mCall (g : List D → Option D) (f : M (List D)) : M D := M.bind f fun xs => M.opt (g xs)
def CallD (K : PySem.W.Frag) (r : List V → Hp → VK → Prop) (g : List D → Option D) : Prop := ∀ (xs : List V) (ds : List D) (d : D) (B H : Hp) (Q : VK), Ex B H → Fzs K B xs ds → g ds = some d → Grow K B H d Q → r xs H Q
theorem ev_callG {es : List Expr} {r : List V → Hp → VK → Prop} {g : List D → Option D} {f : M (List D)} (h : PE X e (tCB r (wa X es))) (hr : CallD X.K r g) (ha : EA X W es f) : EV X W e (mCall g f) := by
  intro F ρ σ B H Q L P
  refine PE.we h ?_
  refine ha F ρ σ B H _ L ((Post.bind P).imp fun ds ρ1 B1 H1 e1 L1 P1 xs fs => ?_)
  obtain ⟨d, hd, k⟩ := P1.opt
  exact hr xs ds d B1 H1 Q L1.ex fs hd (L1.grow k)
theorem ev_callB {x : Str} {id : String} {es : List Expr} {p : Pos} {r : List V → Hp → VK → Prop} {g : List D → Option D} {f : M (List D)} (hc : CallR X (.builtin id) r) (hr : CallD X.K r g) (hg : Gl X x) (hm : X.mg x = none) (hv : bootBuiltins x = some (.builtin id))
    (ha : EA X W (e :: es) f) (hn : x ≠ "__name__" := by decide) (hdb : (x == ("__debug__" : Str)) = false := by decide)
    (he : starEach (e :: es) X.env = (false, eval e X.env) :: starEach es X.env := by rfl) (hpl : (backTo pos (starEach es X.env)).any (·.1) = false := by rfl) : EV X W (.Call (.Name x p) (e :: es) [] pos) (mCall g f) :=
  ev_callG (pe_callB hc hg hm hv pa_wa hn hdb he hpl) hr ha
theorem ev_callTy {x : Str} {T : String} {es : List Expr} {p : Pos} {r : List V → Hp → VK → Prop} {g : List D → Option D} {f : M (List D)} (hc : CallR X (.type T) r) (hr : CallD X.K r g) (hg : Gl X x) (hm : X.mg x = none) (hv : bootBuiltins x = some (.type T))
    (ha : EA X W (e :: es) f) (hn : x ≠ "__name__" := by decide) (hdb : (x == ("__debug__" : Str)) = false := by decide)
    (he : starEach (e :: es) X.env = (false, eval e X.env) :: starEach es X.env := by rfl) (hpl : (backTo pos (starEach es X.env)).any (·.1) = false := by rfl) : EV X W (.Call (.Name x p) (e :: es) [] pos) (mCall g f) :=
  ev_callG (pe_callTy hc hg hm hv pa_wa hn hdb he hpl) hr ha
/-- displays -/
def mTup (f : M (List D)) : M D := M.bind f fun xs => M.opt (if xs.length ≤ 10000 then some (.tup xs) else none)
theorem len_line {n : Nat} (h : n ≤ 100000) : n ≤ sizeLine := Nat.le_trans h (by decide)
theorem ev_tup {es : List Expr} {k : Nat} {f : M (List D)} (ha : EA X W es f) : EV X W (.Tuple es k pos) (mTup f) := by
  intro F ρ σ B H Q L P
  refine PE.we (pe_tup pa_wa) ?_
  refine ha F ρ σ B H _ L ((Post.bind P).imp fun ds ρ1 B1 H1 e1 L1 P1 xs fs => ?_)
  obtain ⟨d, hd, k⟩ := P1.opt
  split at hd
  · injection hd with hd; subst hd
    refine ⟨len_line (by rw [fs.len]; omega), fun p hp => (L1.grow k).2 p _ _ hp (.tup (.inl (.inl upd_same)) (fs.mono (Ex.new (L1.ex.nn hp))))⟩
  · cases hd
/-- owned values -/
def mFz (f : M (D × Bool)) : M D := M.bind f fun p => M.pure p.1
theorem Lv.vfz {K : PySem.W.Frag} {F : Fr} {ρ : Env} {σ : St} {B H : Hp} {v : V} {d : D} {o : Bool} (L : Lv K F ρ σ B H) (h : VO K F ρ σ B H v d o) : ∃ B', Ex B B' ∧ Lv K F ρ σ B' H ∧ Fz K B' v d := by
  cases o with
  | false => exact ⟨B, Ex.refl _, L, h⟩
  | true =>
    obtain ⟨a, rfl, w, n, no⟩ := h
    obtain ⟨o, h1, h2⟩ := w.fz
    exact ⟨_, Ex.new w.hid, L.freeze h1 w.hid n no, h2⟩
theorem ev_of {f : M (D × Bool)} (h : EO X W e f) : EV X W e (mFz f) := by
  intro F ρ σ B H Q L P
  refine h F ρ σ B H Q L ((Post.bind P).imp fun p ρ1 B1 H1 e1 L1 P1 v w => ?_)
  obtain ⟨B2, e2, L2, f2⟩ := L1.vfz w
  exact P1 B2 H1 e2 L2 v f2
def mOf (f : M D) : M (D × Bool) := M.bind f fun d => M.pure (d, false)
theorem eo_of {f : M D} (h : EV X W e f) : EO X W e (mOf f) := by
  intro F ρ σ B H Q L P
  exact h F ρ σ B H Q L ((Post.bind P).imp fun d ρ1 B1 H1 e1 L1 P1 v w => P1 B1 H1 (Ex.refl _) L1 v w)
/-- a local that is handed on as it is owned: the slot is emptied -/
def mMove (i : Nat) : M (D × Bool) := fun ρ => match ρ[i]? with
  | some (.fz d) => .ok (d, false) ρ
  | some (.ow d) => .ok (d, true) (ρ.set i .un)
  | _ => .fail
/-- a new list -/
def mLst (f : M (List D)) : M (D × Bool) := M.bind f fun xs => M.opt (if xs.length ≤ 10000 then some (.lst xs, true) else none)
theorem Lv.newL {K : PySem.W.Frag} {F : Fr} {ρ : Env} {σ : St} {B H : Hp} {p : Addr} {xs : List V} {ds : List D} (L : Lv K F ρ σ B H) (hp : H p = none) (fs : Fzs K B xs ds) : Lv K F ρ σ B (upd H p (.lst xs)) ∧ VO K F ρ σ B (upd H p (.lst xs)) (.ref p) (.lst ds) true :=
  ⟨L.allocO hp, p, rfl, ⟨L.ex.nn hp, xs, upd_same, fs⟩, .inr (L.free hp), fun h => (L.hidOw h).2 hp⟩
theorem eo_lst {es : List Expr} {f : M (List D)} (ha : EA X W es f) : EO X W (.List es pos) (mLst f) := by
  intro F ρ σ B H Q L P
  refine PE.we (pe_lst pa_wa) ?_
  refine ha F ρ σ B H _ L ((Post.bind P).imp fun ds ρ1 B1 H1 e1 L1 P1 xs fs => ?_)
  obtain ⟨d, hd, k⟩ := P1.opt
  split at hd
  · injection hd with hd; subst hd
    refine ⟨len_line (by rw [fs.len]; omega), fun p hp => ?_⟩
    obtain ⟨L2, v2⟩ := L1.newL hp fs
    exact k B1 _ (Ex.refl _) L2 _ v2
  · cases hd
theorem eo_move (i : Nat) {x : Str} (hN : X.N[i]? = some x := by rfl) (hv : Vis X.env.scope x := by first | exact Or.inl rfl | exact Or.inr (Or.inl rfl) | exact Or.inr (Or.inr rfl)) (hd : (x == ("__debug__" : Str)) = false := by decide)
    (hcd : (x == ("__classdict__" : Str)) = false := by decide) : EO X W (.Name x pos) (mMove i) := by
  intro F ρ σ B H Q L P
  refine PE.we (pe_var hN hv hd hcd) ?_
  unfold mMove at P
  split at P
  · rename_i d h
    obtain ⟨v, e1, f⟩ := L.fz i d h
    exact ⟨v, e1, P B H (Ex.refl _) L v f⟩
  · rename_i d h
    obtain ⟨a, e1, w, g⟩ := L.ow i _ h rfl
    refine ⟨_, e1, P B H (Ex.refl _) (L.slot rfl (fun d z => nomatch z)) _ ⟨a, rfl, w, g, fun ⟨j, s, e2, w2, q2⟩ => ?_⟩⟩
    rcases get_set e2 with ⟨rfl, z, l⟩ | ⟨n, e2⟩
    · rw [z] at w2; cases w2
    · exact n (L.ne j i s _ a e2 w2 h rfl q2 e1)
  · exact P.elim
end
end Dt
/-! Dt: tests, statements, targets, loops. -/
namespace Dt
open PySem PySem.Spec PyProof.Rows L2

/-! ### tests -/
section
variable {X : Cx} {W : WX} {e a b c : Expr} {pos : Pos}
def asBl : D → Option Bool
  | .bl k => some k
  | _ => none
theorem Fz.bl_inv {K : PySem.W.Frag} {B : Hp} {v : V} {d : D} {k : Bool} (h : Fz K B v d) (e : asBl d = some k) : v = .bl k := by
  cases h with
  | bl b => injection e with e; rw [e]
  | _ => cases e
def mTest (f : M D) : M Bool := M.bind f fun d => M.opt (asBl d)
theorem et_of {f : M D} {t : TE} (h : PT X e (tTest (we X e))) (he : EV X W e f) : ET X W e (mTest f) := by
  intro F ρ σ B H Q L P
  refine PT.wt h ?_
  refine he F ρ σ B H _ L ((Post.bind P).imp fun d ρ1 B1 H1 e1 L1 P1 v fv => ?_)
  obtain ⟨k, hk, q⟩ := P1.opt
  exact ⟨k, fv.bl_inv hk, q B1 H1 (Ex.refl _) L1⟩
/-- any expression whose value is a bool -/
theorem et_val {f : M D} (he : EV X W e f) (hw : ∀ whole, isTrue e X.env whole = (do let v ← whole; standAt e.pos; holding [v] (truthy v)) := by intro _; rfl) : ET X W e (mTest f) := by
  intro F ρ σ B H Q L P
  refine PT.wt (pt_val pe_we hw) ?_
  refine he F ρ σ B H _ L ((Post.bind P).imp fun d ρ1 B1 H1 e1 L1 P1 v fv => ?_)
  obtain ⟨k, hk, q⟩ := P1.opt
  exact ⟨k, fv.bl_inv hk, q B1 H1 (Ex.refl _) L1⟩
/-- a comparison -/
theorem et_cmp {op : CmpOp} {r : R2} {g : D → D → Option D} {f1 f2 : M D} (ho : OpR X (compareOp op) r) (hr : OpD X.K r g) (ha : EV X W a f1) (hb : EV X W b f2) (hm : behindInMarks op b = false := by first | exact nomark _ | rfl) : ET X W (.Compare a [op] [b] pos) (mTest (mBin g f1 f2)) := by
  intro F ρ σ B H Q L P
  refine PT.wt (pt_cmpR ho pe_we pe_we hm) ?_
  have P0 := Post.bind P
  refine ha F ρ σ B H _ L ((Post.bind P0).imp fun dx ρ1 B1 H1 e1 L1 P1 x fx => ?_)
  refine hb F ρ1 σ B1 H1 _ L1 ((Post.bind P1).imp fun dy ρ2 B2 H2 e2 L2 P2 y fy => ?_)
  obtain ⟨d, hd, k⟩ := P2.opt
  refine hr x y dx dy d B2 H2 _ L2.ex (fx.mono e2) fy hd (L2.grow fun B' H' e' L' v fv => ?_)
  obtain ⟨kk, hk, q⟩ := (k B' H' e' L').opt
  exact ⟨kk, fv.bl_inv hk, q B' H' (Ex.refl _) L'⟩
/-- and, or, not -/
def ww (X : Cx) (e : Expr) : TT := fun σ H Q => ∀ (whole : Sem Value) (pins : List (Addr × Obj)) (s : Shared), Inv X pins σ H s → wpAny (model X.prog X.w) X.A (isTrue e X.env whole) (TP X pins σ Q) X.xe s
theorem pw_ww : PW X e (ww X e) := ⟨fun whole pins s _ _ _ I h => h whole pins s I⟩
theorem PW.ww {t : TT} {Q : Bool → Hp → Prop} {σ : St} {H : Hp} (h : PW X e t) (q : t σ H Q) : ww X e σ H Q := fun whole pins s I => h.run whole pins s σ H Q I q
def EW (X : Cx) (W : WX) (e : Expr) (f : M Bool) : Prop := ∀ (F : Fr) (ρ : Env) (σ : St) (B H : Hp) (Q : Bool → Hp → Prop), Lv X.K F ρ σ B H →
  Post X W F σ B (f ρ) (fun b _ _ H' => Q b H') → ww X e σ H Q
theorem et_w {f : M Bool} (h : EW X W e f) : ET X W e f := fun F ρ σ B H Q L P => PT.wt (PW.pt pw_ww) (h F ρ σ B H Q L P)
def mAnd (f g : M Bool) : M Bool := M.bind f fun k => match k with
  | true => g
  | false => M.pure false
def mOr (f g : M Bool) : M Bool := M.bind f fun k => match k with
  | true => M.pure true
  | false => g
def mNot (f : M Bool) : M Bool := M.bind f fun k => M.pure (!k)
theorem ew_and1 {f : M Bool} (ha : ET X W a f) : EW X W (.BoolOp .And [a] pos) f := fun F ρ σ B H Q L P => PW.ww (pw_and1 pt_wt) (ha F ρ σ B H Q L P)
theorem ew_or1 {f : M Bool} (ha : ET X W a f) : EW X W (.BoolOp .Or [a] pos) f := fun F ρ σ B H Q L P => PW.ww (pw_or1 pt_wt) (ha F ρ σ B H Q L P)
theorem ew_and {rest : List Expr} {f g : M Bool} (ha : ET X W a f) (hb : EW X W (.BoolOp .And (b :: rest) pos) g) : EW X W (.BoolOp .And (a :: b :: rest) pos) (mAnd f g) := by
  intro F ρ σ B H Q L P
  refine PW.ww (pw_and pt_wt pw_ww) ?_
  refine ha F ρ σ B H _ L ((Post.bind P).imp fun k ρ1 B1 H1 e1 L1 P1 => ?_)
  cases k with
  | true => rw [if_pos rfl]; exact hb F ρ1 σ B1 H1 Q L1 P1
  | false => rw [if_neg Bool.false_ne_true]; exact P1 B1 H1 (Ex.refl _) L1
theorem ew_or {rest : List Expr} {f g : M Bool} (ha : ET X W a f) (hb : EW X W (.BoolOp .Or (b :: rest) pos) g) : EW X W (.BoolOp .Or (a :: b :: rest) pos) (mOr f g) := by
  intro F ρ σ B H Q L P
  refine PW.ww (pw_or pt_wt pw_ww) ?_
  refine ha F ρ σ B H _ L ((Post.bind P).imp fun k ρ1 B1 H1 e1 L1 P1 => ?_)
  cases k with
  | true => rw [if_pos rfl]; exact P1 B1 H1 (Ex.refl _) L1
  | false => rw [if_neg Bool.false_ne_true]; exact hb F ρ1 σ B1 H1 Q L1 P1
theorem et_not {f : M Bool} (ha : ET X W a f) : ET X W (.UnaryOp .Not a pos) (mNot f) := by
  intro F ρ σ B H Q L P
  refine PT.wt (pt_not pt_wt) ?_
  exact ha F ρ σ B H _ L ((Post.bind P).imp fun k ρ1 B1 H1 e1 L1 P1 => P1 B1 H1 (Ex.refl _) L1)
/-- .. as values -/
def mAndV (f g : M D) : M D := M.bind f fun d => match d with
  | .bl true => g
  | .bl false => M.pure (.bl false)
  | _ => M.fail
def mOrV (f g : M D) : M D := M.bind f fun d => match d with
  | .bl true => M.pure (.bl true)
  | .bl false => g
  | _ => M.fail
def mNotV (f : M D) : M D := M.bind f fun d => match d with
  | .bl k => M.pure (.bl (!k))
  | _ => M.fail
theorem ev_one {op : BoolOp} {f : M D} (h : EV X W a f) : EV X W (.BoolOp op [a] pos) f := fun F ρ σ B H Q L P => PE.we (pe_one pe_we) (h F ρ σ B H Q L P)
theorem ev_and {rest : List Expr} {f g : M D} (ha : EV X W a f) (hb : EV X W (.BoolOp .And (b :: rest) pos) g) : EV X W (.BoolOp .And (a :: b :: rest) pos) (mAndV f g) := by
  intro F ρ σ B H Q L P
  refine PE.we (pe_and pe_we pe_we) ?_
  refine ha F ρ σ B H _ L ((Post.bind P).imp fun d ρ1 B1 H1 e1 L1 P1 v fv => ?_)
  split at P1
  · cases fv
    exact ⟨true, rfl, by rw [if_pos rfl]; exact hb F ρ1 σ B1 H1 Q L1 P1⟩
  · cases fv
    exact ⟨false, rfl, by rw [if_neg Bool.false_ne_true]; exact P1 B1 H1 (Ex.refl _) L1 _ (.bl false)⟩
  · exact P1.elim
theorem ev_or {rest : List Expr} {f g : M D} (ha : EV X W a f) (hb : EV X W (.BoolOp .Or (b :: rest) pos) g) : EV X W (.BoolOp .Or (a :: b :: rest) pos) (mOrV f g) := by
  intro F ρ σ B H Q L P
  refine PE.we (pe_or pe_we pe_we) ?_
  refine ha F ρ σ B H _ L ((Post.bind P).imp fun d ρ1 B1 H1 e1 L1 P1 v fv => ?_)
  split at P1
  · cases fv
    exact ⟨true, rfl, by rw [if_pos rfl]; exact P1 B1 H1 (Ex.refl _) L1 _ (.bl true)⟩
  · cases fv
    exact ⟨false, rfl, by rw [if_neg Bool.false_ne_true]; exact hb F ρ1 σ B1 H1 Q L1 P1⟩
  · exact P1.elim
theorem ev_not {f : M D} (ha : EV X W a f) : EV X W (.UnaryOp .Not a pos) (mNotV f) := by
  intro F ρ σ B H Q L P
  refine PE.we (pe_not pe_we) ?_
  refine ha F ρ σ B H _ L ((Post.bind P).imp fun d ρ1 B1 H1 e1 L1 P1 v fv => ?_)
  split at P1
  · rename_i k
    cases fv
    exact ⟨k, rfl, P1 B1 H1 (Ex.refl _) L1 _ (.bl _)⟩
  · exact P1.elim
/-- a if t else b -/
def mIf {α : Type} (t : M Bool) (f g : M α) : M α := M.bind t fun k => match k with
  | true => f
  | false => g
theorem ev_if {t : M Bool} {f g : M D} (hc : ET X W c t) (ha : EV X W a f) (hb : EV X W b g) : EV X W (.IfExp c a b pos) (mIf t f g) := by
  intro F ρ σ B H Q L P
  refine PE.we (pe_ifExp pt_wt pe_we pe_we) ?_
  refine hc F ρ σ B H _ L ((Post.bind P).imp fun k ρ1 B1 H1 e1 L1 P1 => ?_)
  cases k with
  | true => rw [if_pos rfl]; exact ha F ρ1 σ B1 H1 Q L1 P1
  | false => rw [if_neg Bool.false_ne_true]; exact hb F ρ1 σ B1 H1 Q L1 P1
/-- a < b < c -/
def mChain (g g' : D → D → Option D) (f1 f2 f3 : M D) : M D := M.bind f1 fun x => M.bind f2 fun y => M.bind (M.opt (g x y)) fun z => match z with
  | .bl true => M.bind f3 fun w => M.opt (g' y w)
  | .bl false => M.pure (.bl false)
  | _ => M.fail
end

/-! ### targets -/
section
variable {X : Cx} {W : WX} {pos : Pos}
def wg (X : Cx) (tg : Expr) : TG := fun v σ H Q => ∀ (pins : List (Addr × Obj)) (s : Shared) (u : Value), Inv X pins σ H s → RelV v u → wpAny (model X.prog X.w) X.A (assign tg X.env u) (fun _ s' => ∃ σ' H', Inv X pins σ' H' s' ∧ Q σ' H') X.xe s
theorem pg_wg {tg : Expr} : PG X tg (wg X tg) := ⟨fun pins s _ _ _ u _ I r h => h pins s u I r⟩
theorem PG.wg {tg : Expr} {t : TG} {v : V} {σ : St} {H : Hp} {Q : St → Hp → Prop} (h : PG X tg t) (q : t v σ H Q) : wg X tg v σ H Q := fun pins s u I r => h.run pins s σ H v u Q I r q
def wgs (X : Cx) (ts : List Expr) : TGs := fun vs σ H Q => ∀ (pins : List (Addr × Obj)) (s : Shared) (us : List Value), Inv X pins σ H s → Vals vs us → wpAny (model X.prog X.w) X.A (assignInOrder ((assignEach ts X.env).map (·.2)) us) (fun _ s' => ∃ σ' H', Inv X pins σ' H' s' ∧ Q σ' H') X.xe s
theorem pgs_wgs {ts : List Expr} : PGs X ts (wgs X ts) := ⟨fun pins s _ _ _ us _ I r h => h pins s us I r⟩
theorem PGs.wgs {ts : List Expr} {t : TGs} {vs : List V} {σ : St} {H : Hp} {Q : St → Hp → Prop} (h : PGs X ts t) (q : t vs σ H Q) : wgs X ts vs σ H Q := fun pins s us I r => h.run pins s σ H vs us Q I r q
/-- the slots of is alone may be others -/
def Onl (is : List Nat) (σ σ' : St) : Prop := σ'.length = σ.length ∧ ∀ j, j ∉ is → σ'[j]? = σ[j]?
theorem Onl.refl (σ : St) : Onl [] σ σ := ⟨rfl, fun _ _ => rfl⟩
theorem Onl.trans {is js : List Nat} {σ σ1 σ2 : St} (a : Onl is σ σ1) (b : Onl js σ1 σ2) : Onl (is ++ js) σ σ2 :=
  ⟨b.1.trans a.1, fun j h => (b.2 j fun z => h (List.mem_append_right _ z)).trans (a.2 j fun z => h (List.mem_append_left _ z))⟩
theorem Onl.set (σ : St) (i : Nat) (v : Option V) : Onl [i] σ (σ.set i v) := ⟨List.length_set, fun j h => List.getElem?_set_ne (fun z => h (by simp [z]))⟩
/-- what a store leaves -/
def PostG (X : Cx) (F : Fr) (B : Hp) (σ : St) (is : List Nat) (r : Option Env) (Q : St → Hp → Prop) : Prop :=
  match r with
  | some ρ' => ∀ σ' B' H', Onl is σ σ' → Ex B B' → Lv X.K F ρ' σ' B' H' → Q σ' H'
  | none => False
def GV (X : Cx) (tg : Expr) (is : List Nat) (g : D → Env → Option Env) : Prop := ∀ (F : Fr) (ρ : Env) (σ : St) (B H : Hp) (v : V) (d : D) (Q : St → Hp → Prop), Lv X.K F ρ σ B H → Fz X.K B v d → PostG X F B σ is (g d ρ) Q → wg X tg v σ H Q
def GVs (X : Cx) (ts : List Expr) (is : List Nat) (g : List D → Env → Option Env) : Prop := ∀ (F : Fr) (ρ : Env) (σ : St) (B H : Hp) (vs : List V) (ds : List D) (Q : St → Hp → Prop), Lv X.K F ρ σ B H → Fzs X.K B vs ds → PostG X F B σ is (g ds ρ) Q → wgs X ts vs σ H Q
def gN (i : Nat) (d : D) (ρ : Env) : Option Env := some (ρ.set i (.fz d))
theorem gv_name {i : Nat} {x : Str} (hN : X.N.Nodup) (hi : X.N[i]? = some x := by rfl) (hx : Loc X.env.scope x := by first | exact Or.inl rfl | exact Or.inr rfl) (hf : X.fn x = true ∨ X.env.scope.names.lookup x = some .local := by first | exact .inl rfl | exact .inr rfl | assumption) : GV X (.Name x pos) [i] (gN i) := by
  intro F ρ σ B H v d Q L fv P
  refine PG.wg (pg_name hN hi hx hf) ?_
  exact P _ B H (Onl.set σ i _) (Ex.refl _) (L.store rfl fun d' z => by injection z with z; subst z; exact fv)
def gsN (ds : List D) (ρ : Env) : Option Env := match ds with
  | [] => some ρ
  | _ => none
def gsC (g : D → Env → Option Env) (gs : List D → Env → Option Env) (ds : List D) (ρ : Env) : Option Env := match ds with
  | d :: r => (g d ρ).bind (gs r)
  | [] => none
theorem gvs_nil : GVs X [] [] gsN := by
  intro F ρ σ B H vs ds Q L fs P
  refine PGs.wgs pgs_nil ?_
  cases fs with
  | nil => exact ⟨rfl, P σ B H (Onl.refl σ) (Ex.refl _) L⟩
  | cons h hs => exact P.elim
theorem gvs_cons {e : Expr} {es : List Expr} {is js : List Nat} {g : D → Env → Option Env} {gs : List D → Env → Option Env} (h1 : GV X e is g) (h2 : GVs X es js gs)
    (hs : (assignEach (e :: es) X.env).map (·.2) = assign e X.env :: (assignEach es X.env).map (·.2) := by rfl) : GVs X (e :: es) (is ++ js) (gsC g gs) := by
  intro F ρ σ B H vs ds Q L fs P
  refine PGs.wgs (pgs_cons pg_wg pgs_wgs hs) ?_
  cases fs with
  | nil => exact P.elim
  | @cons v vs d ds f fs =>
    refine ⟨v, vs, rfl, h1 F ρ σ B H v d _ L f ?_⟩
    have P' : PostG X F B σ (is ++ js) ((g d ρ).bind (gs ds)) Q := P
    cases q : g d ρ with
    | none => rw [q] at P'; exact P'.elim
    | some ρ1 =>
      rw [q] at P'
      intro σ1 B1 H1 o1 e1 L1
      refine h2 F ρ1 σ1 B1 H1 vs ds Q L1 (fs.mono e1) ?_
      have P2 : PostG X F B σ (is ++ js) (gs ds ρ1) Q := P'
      cases q2 : gs ds ρ1 with
      | none => rw [q2] at P2; exact P2.elim
      | some ρ2 => rw [q2] at P2; exact fun σ' B' H' o' e' L' => P2 σ' B' H' (o1.trans o') (e1.trans e') L'
def gT (n : Nat) (gs : List D → Env → Option Env) (d : D) (ρ : Env) : Option Env := match d with
  | .tup ds => if ds.length = n then gs ds ρ else none
  | _ => none
theorem gv_tup {es : List Expr} {k n : Nat} {is : List Nat} {gs : List D → Env → Option Env} (hc : X.calm = true) (h : GVs X es is gs) (hn : (assignEach es X.env).length = n := by rfl) (hst : (assignEach es X.env).findIdx? (·.1) = none := by rfl) : GV X (.Tuple es k pos) is (gT n gs) := by
  intro F ρ σ B H v d Q L fv P
  refine PG.wg (pg_tup hc pgs_wgs hn hst) ?_
  cases fv with
  | @tup a xs ds hs fs =>
    have P' : PostG X F B σ is (if ds.length = n then gs ds ρ else none) Q := P
    split at P'
    · rename_i hl
      exact ⟨a, xs, rfl, L.ex.st hs, by rw [fs.len]; exact hl, h F ρ σ B H xs ds Q L fs P'⟩
    · exact P'.elim
  | _ => exact P.elim
end

/-! ### statements -/
section
variable {X : Cx} {W : WX} {e : Expr} {pos : Pos} {st : Stmt} {rest : List Stmt}
def mSeq (f g : M Fl) : M Fl := M.bind f fun fl => match fl with
  | .nx => g
  | .bk => M.pure .bk
  | .ct => M.pure .ct
  | .rt d o => M.pure (.rt d o)
def mNx : M Fl := M.pure .nx
theorem svs_nil : SVs X W [] mNx := fun F ρ σ B H N L P => PSs.wss pss_nil (P σ B H (Ex.refl _) L)
theorem svs_cons {f g : M Fl} (h1 : SV X W st f) (h2 : SVs X W rest g) : SVs X W (st :: rest) (mSeq f g) := by
  intro F ρ σ B H N L P
  refine PSs.wss (pss_cons ps_ws pss_wss) ?_
  refine h1 F ρ σ B H _ L ?_
  have P' : PostS X W F B (M.bind f _ ρ) N := P
  unfold M.bind at P'
  cases q : f ρ with
  | ok fl ρ1 =>
    rw [q] at P'
    cases fl with
    | nx => exact fun σ' B' H' e' L' => h2 F ρ1 σ' B' H' N L' (PostS.weak P' e')
    | bk => exact P'
    | ct => exact P'
    | rt d o => exact P'
  | rz c ρ1 => rw [q] at P'; exact P'
  | fail => rw [q] at P'; exact P'
theorem svs_one {f : M Fl} (h1 : SV X W st f) : SVs X W [st] f := fun F ρ σ B H N L P => PSs.wss (pss_one ps_ws) (h1 F ρ σ B H N L P)
/-- name = e -/
def mPut (i : Nat) (p : D × Bool) : M Fl := fun ρ => .ok .nx (ρ.set i (if p.2 then .ow p.1 else .fz p.1))
def mSet (i : Nat) (f : M (D × Bool)) : M Fl := M.bind f (mPut i)
theorem Lv.put {K : PySem.W.Frag} {F : Fr} {ρ : Env} {σ : St} {B H : Hp} {v : V} {p : D × Bool} {i : Nat} (L : Lv K F ρ σ B H) (w : VO K F ρ σ B H v p.1 p.2) : Lv K F (ρ.set i (if p.2 then .ow p.1 else .fz p.1)) (σ.set i (some v)) B H := by
  obtain ⟨d, o⟩ := p
  cases o with
  | false => exact L.store rfl fun d' z => by injection z with z; subst z; exact w
  | true =>
    obtain ⟨a, rfl, w, g, no⟩ := w
    have L1 : Lv K F (ρ.set i .un) (σ.set i (some (.ref a))) B H := L.store rfl fun d' z => nomatch z
    by_cases hi : i < ρ.length
    · have L2 := L1.own (i := i) (t := .ow d) (a := a) (List.getElem?_set_self (by rw [← L.len]; exact hi)) w g (fun j s e1 w1 q1 => ?_) rfl (fun d z => nomatch z)
      · rw [List.set_set] at L2; exact L2
      · rcases get_set e1 with ⟨rfl, z, l⟩ | ⟨n, e1⟩
        · rfl
        · rw [List.getElem?_set_ne (Ne.symm n)] at q1
          exact absurd ⟨j, s, e1, w1, q1⟩ no
    · have e1 : ρ.set i (.ow d) = ρ := List.set_eq_of_length_le (by omega)
      have e2 : σ.set i (some (V.ref a)) = σ := List.set_eq_of_length_le (by rw [← L.len]; omega)
      show Lv K F (ρ.set i (.ow d)) (σ.set i (some (V.ref a))) B H
      rw [e1, e2]; exact L
theorem sv_set {i : Nat} {x : Str} {pos' : Pos} {f : M (D × Bool)} (he : EO X W e f) (hN : X.N.Nodup) (hi : X.N[i]? = some x := by rfl) (hx : Loc X.env.scope x := by first | exact Or.inl rfl | exact Or.inr rfl)
    (hs : swapsWith e (some (.Name x pos')) pos.line X.env = pure false := by rfl) (hf : X.fn x = true ∨ X.env.scope.names.lookup x = some .local := by first | exact .inl rfl | exact .inr rfl | assumption) : SV X W (.Assign [.Name x pos'] e pos) (mSet i f) := by
  intro F ρ σ B H N L P
  refine PS.ws (ps_set hN hi hx pe_we hs hf) ?_
  refine he F ρ σ B H _ L ((PostS.bind P).imp fun p ρ1 B1 H1 e1 L1 P1 v w => ?_)
  exact P1 _ B1 H1 (Ex.refl _) (L1.put w)
/-- targets = e -/
def mAsg (g : D → Env → Option Env) (f : M D) : M Fl := M.bind f fun d ρ => match g d ρ with
  | some ρ' => .ok .nx ρ'
  | none => .fail
theorem sv_asg {tg : Expr} {is : List Nat} {g : D → Env → Option Env} {f : M D} (he : EV X W e f) (hg : GV X tg is g) (hs : swapsWithSole [tg] e pos.line X.env = pure false := by rfl) (hw : swappedStores [tg] e X.env = pure none := by rfl)
    (h1 : (assignEach [tg] X.env).map (·.2) = [assign tg X.env] := by rfl) : SV X W (.Assign [tg] e pos) (mAsg g f) := by
  intro F ρ σ B H N L P
  refine PS.ws (ps_asg pe_we pg_wg hs hw h1) ?_
  refine he F ρ σ B H _ L ((PostS.bind P).imp fun d ρ1 B1 H1 e1 L1 P1 v fv => ?_)
  refine hg F ρ1 σ B1 H1 v d _ L1 fv ?_
  cases q : g d ρ1 with
  | none => simp only [q] at P1; exact P1
  | some ρ2 => simp only [q] at P1; exact fun σ' B' H' _ e' L' => P1 σ' B' H' e' L'
/-- a, b = x, y -/
def mPar (i j : Nat) (f : M (List D)) : M Fl := M.bind f fun ds ρ => match ds with
  | [x, y] => .ok .nx ((ρ.set i (.fz x)).set j (.fz y))
  | _ => .fail
theorem sv_par {i j : Nat} {x y : Str} {a b : Expr} {px py pt : Pos} {kt k2 : Nat} {pt2 : Pos} {f : M (List D)} (hc : X.calm = true) (hN : X.N.Nodup) (ha : EA X W [a, b] f) (hi : X.N[i]? = some x := by rfl) (hj : X.N[j]? = some y := by rfl) (hij : i ≠ j := by decide)
    (hx : X.env.scope.names.lookup x = some .local := by rfl) (hy : X.env.scope.names.lookup y = some .local := by rfl)
    (hw : swappedStores [.Tuple [.Name x px, .Name y py] kt pt] (.Tuple [a, b] k2 pt2) X.env = pure (some [x, y]) := by rfl)
    (hs : swapsWithSole [.Tuple [.Name x px, .Name y py] kt pt] (.Tuple [a, b] k2 pt2) pos.line X.env = pure false := by rfl) :
    SV X W (.Assign [.Tuple [.Name x px, .Name y py] kt pt] (.Tuple [a, b] k2 pt2) pos) (mPar i j f) := by
  intro F ρ σ B H N L P
  refine PS.ws (ps_par hc hN hi hj hij hx hy pa_wa hw hs) ?_
  refine ha F ρ σ B H _ L ((PostS.bind P).imp fun ds ρ1 B1 H1 e1 L1 P1 vs fs => ?_)
  split at P1
  · cases fs with
    | cons f1 fs =>
      cases fs with
      | cons f2 fs =>
        cases fs
        refine ⟨_, _, rfl, P1 _ B1 H1 (Ex.refl _) ?_⟩
        exact (L1.store (i := i) rfl fun d' z => by injection z with z; subst z; exact f1).store (i := j) rfl fun d' z => by injection z with z; subst z; exact f2
  · exact P1.elim
/-- return -/
def mRet (f : M (D × Bool)) : M Fl := M.bind f fun p => M.pure (.rt p.1 p.2)
theorem sv_ret {f : M (D × Bool)} (he : EO X W e f) : SV X W (.Return (some e) pos) (mRet f) := by
  intro F ρ σ B H N L P
  refine PS.ws (ps_ret pe_we) ?_
  exact he F ρ σ B H _ L ((PostS.bind P).imp fun p ρ1 B1 H1 e1 L1 P1 v w => P1 v σ B1 H1 (Ex.refl _) L1 w)
/-- an expression -/
def mDrop (f : M D) : M Fl := M.bind f fun _ => mNx
theorem sv_expr {f : M D} (he : EV X W e f) (hs : swapsWith e none pos.line X.env = pure false := by rfl) : SV X W (.Expr e pos) (mDrop f) := by
  intro F ρ σ B H N L P
  refine PS.ws (ps_expr pe_we hs) ?_
  exact he F ρ σ B H _ L ((PostS.bind P).imp fun p ρ1 B1 H1 e1 L1 P1 v w => P1 σ B1 H1 (Ex.refl _) L1)
theorem sv_pass : SV X W (.Pass pos) mNx := fun F ρ σ B H N L P => PS.ws ps_pass (P σ B H (Ex.refl _) L)
/-- if -/
theorem sv_if {c : Expr} {a b : List Stmt} {t : M Bool} {f g : M Fl} (hc : ET X W c t) (ha : SVs X W a f) (hb : SVs X W b g) : SV X W (.If c a b pos) (mIf t f g) := by
  intro F ρ σ B H N L P
  refine PS.ws (ps_if pt_wt pss_wss pss_wss) ?_
  refine hc F ρ σ B H _ L ((PostS.bind P).imp fun k ρ1 B1 H1 e1 L1 P1 => ?_)
  cases k with
  | true => rw [if_pos rfl]; exact ha F ρ1 σ B1 H1 N L1 P1
  | false => rw [if_neg Bool.false_ne_true]; exact hb F ρ1 σ B1 H1 N L1 P1
/-- while -/
def mWhN (t : M Bool) (b : M Fl) : Nat → M Fl
  | 0 => M.fail
  | n + 1 => M.bind t fun k => match k with
    | false => mNx
    | true => M.bind b fun fl => match fl with
      | .nx => mWhN t b n
      | .ct => mWhN t b n
      | .bk => mNx
      | .rt d o => M.pure (.rt d o)
open Classical in
noncomputable def mWh (t : M Bool) (b : M Fl) : M Fl := fun ρ => if h : ∃ n, mWhN t b n ρ ≠ .fail then mWhN t b (choose h) ρ else .fail
theorem mWhN_up (t : M Bool) (b : M Fl) : ∀ (n : Nat) (ρ : Env), mWhN t b n ρ ≠ .fail → ∀ m, n ≤ m → mWhN t b m ρ = mWhN t b n ρ
  | 0, ρ, h, _, _ => absurd rfl h
  | n + 1, ρ, h, 0, hm => by omega
  | n + 1, ρ, h, m + 1, hm => by
    unfold mWhN M.bind at h ⊢
    cases q : t ρ with
    | ok k ρ1 =>
      simp only [q] at h ⊢
      cases k with
      | false => rfl
      | true =>
        simp only at h ⊢
        cases q2 : b ρ1 with
        | ok fl ρ2 =>
          simp only [q2] at h ⊢
          cases fl with
          | nx => exact mWhN_up t b n ρ2 h m (by omega)
          | ct => exact mWhN_up t b n ρ2 h m (by omega)
          | bk => rfl
          | rt d o => rfl
        | rz c ρ2 => rfl
        | fail => rfl
    | rz c ρ1 => rfl
    | fail => rfl
theorem mWh_eq {t : M Bool} {b : M Fl} {n : Nat} {ρ : Env} (h : mWhN t b n ρ ≠ .fail) : mWh t b ρ = mWhN t b n ρ := by
  have hx : ∃ n, mWhN t b n ρ ≠ .fail := ⟨n, h⟩
  unfold mWh
  rw [dif_pos hx]
  have h2 := Classical.choose_spec hx
  by_cases q : n ≤ Classical.choose hx
  · exact mWhN_up t b n ρ h _ q
  · exact (mWhN_up t b _ ρ h2 n (by omega)).symm
theorem sv_while {c : Expr} {body : List Stmt} {t : M Bool} {b : M Fl} (hp : PassesOwn (model X.prog X.w) X.A X.env X.xe) (hc : ET X W c t) (hb : SVs X W body b) : SV X W (.While c body [] pos) (mWh t b) := by
  intro F ρ σ B H N L P
  refine PS.ws (ps_while hp pt_wt pss_wss) ?_
  unfold mWh at P
  split at P
  · rename_i hx
    refine ⟨fun m σ' H' => ∃ ρ' B', Lv X.K F ρ' σ' B' H' ∧ PostS X W F B' (mWhN t b m ρ') N, ⟨_, ρ, B, L, P⟩, ?_⟩
    rintro m σ1 H1 ⟨ρ1, B1, L1, P1⟩
    cases m with
    | zero => exact P1.elim
    | succ n =>
      unfold mWhN at P1
      refine hc F ρ1 σ1 B1 H1 _ L1 ((PostS.bind P1).imp fun k ρ2 B2 H2 e2 L2 P2 => ?_)
      cases k with
      | false => rw [if_neg Bool.false_ne_true]; exact P2 σ1 B2 H2 (Ex.refl _) L2
      | true =>
        rw [if_pos rfl]
        refine ⟨fun σ' H' => ∃ ρ' B', Lv X.K F ρ' σ' B' H' ∧ PostS X W F B' (mWhN t b n ρ') N, fun σ' H' q => ⟨n, Nat.lt_succ_self n, q⟩, ?_⟩
        refine hb F ρ2 σ1 B2 H2 _ L2 ?_
        have P3 : PostS X W F B2 (M.bind b _ ρ2) N := P2
        unfold M.bind at P3
        cases q : b ρ2 with
        | ok fl ρ3 =>
          rw [q] at P3
          cases fl with
          | nx => exact fun σ' B' H' e' L' => ⟨ρ3, B', L', PostS.weak P3 e'⟩
          | ct => exact fun σ' B' H' e' L' => ⟨ρ3, B', L', PostS.weak P3 e'⟩
          | bk => exact P3
          | rt d o => exact P3
        | rz c ρ3 => rw [q] at P3; exact P3
        | fail => rw [q] at P3; exact P3
  · exact P.elim
end

/-! ### what is walked -/
section
variable {X : Cx} {W : WX} {tg e : Expr} {pos : Pos}
def wi (X : Cx) (tg iter : Expr) : TI := fun σ H R => ∀ (pins : List (Addr × Obj)) (s : Shared), Inv X pins σ H s → wpAny (model X.prog X.w) X.A (eval iter X.env) (fun v s1 => wpAny (model X.prog X.w) X.A (pyIter v) (PIE X pins σ tg R) X.xe s1) X.xe s
theorem pi_wi : PI X tg e (wi X tg e) := ⟨fun pins s _ _ _ I h => h pins s I⟩
theorem PI.wi {t : TI} {σ : St} {H : Hp} {R : It → Hp → Prop} (h : PI X tg e t) (q : t σ H R) : wi X tg e σ H R := fun pins s I => h.run pins s σ H R I q
structure ItOk (K : PySem.W.Frag) (J : It) (B : Hp) (ds : List D) : Prop where
  go : ∀ B' H' i, Ex B B' → Ex B' H' → i < ds.length → J.go i H'
  stop : ∀ B' H' i, Ex B B' → Ex B' H' → ds.length ≤ i → J.stop i H'
  yld : ∀ B' H' i x H3 d, Ex B B' → Ex B' H' → J.yld i H' x H3 → ds[i]? = some d → (H3 = H' ∧ Fz K B' x d) ∨ ∃ p o, H' p = none ∧ H3 = upd H' p o ∧ Fz K (upd B' p o) x d
theorem ItOk.mono {K : PySem.W.Frag} {J : It} {B B1 : Hp} {ds : List D} (h : ItOk K J B ds) (e : Ex B B1) : ItOk K J B1 ds :=
  ⟨fun B' H' i a b c => h.go B' H' i (e.trans a) b c, fun B' H' i a b c => h.stop B' H' i (e.trans a) b c, fun B' H' i x H3 d a b c q => h.yld B' H' i x H3 d (e.trans a) b c q⟩
def IV (X : Cx) (W : WX) (tg iter : Expr) (f : M (List D)) : Prop := ∀ (F : Fr) (ρ : Env) (σ : St) (B H : Hp) (R : It → Hp → Prop), Lv X.K F ρ σ B H →
  Post X W F σ B (f ρ) (fun ds _ B' H' => ∀ J, ItOk X.K J B' ds → R J H') → wi X tg iter σ H R
/-- a list or a tuple -/
def asSeq : D → Option (List D)
  | .lst ds => some ds
  | .tup ds => some ds
  | _ => none
def mIter (f : M D) : M (List D) := M.bind f fun d => M.opt (match d with
  | .lst ds => some ds
  | _ => none)
theorem sq_at {K : PySem.W.Frag} {H : Hp} {a : Addr} {xs ys : List V} (h : H a = some (.lst xs)) (q : SqL K H a ys) (hK : K.lookup a = none) : ys = xs := by
  rcases q with (q | ⟨o, q⟩) | ⟨o, _, _, q, _⟩
  · rw [h] at q; cases q; rfl
  · rw [h] at q; cases q
  · rw [hK] at q; cases q
theorem it_list {K : PySem.W.Frag} {a : Addr} {xs : List V} {B : Hp} {ds : List D} (h : B a = some (.lst xs)) (fs : Fzs K B xs ds) : ItOk K (Itl K a) B ds where
  go := fun B' H' i e1 e2 hi => by
    have hi' : i < xs.length := by rw [fs.len]; exact hi
    exact ⟨xs, xs[i], .inl (.inl (e2 _ _ (e1 _ _ h))), List.getElem?_eq_getElem hi'⟩
  stop := fun B' H' i e1 e2 hi => ⟨xs, .inl (.inl (e2 _ _ (e1 _ _ h))), by rw [fs.len]; exact hi⟩
  yld := fun B' H' i x H3 d e1 e2 y hd => by
    obtain ⟨hH, hx⟩ := y
    have h1 := hx xs (.inl (.inl (e2 _ _ (e1 _ _ h))))
    obtain ⟨d', hd', f⟩ := fs.getV h1
    rw [hd] at hd'; cases hd'
    exact .inl ⟨hH, f.mono e1⟩
theorem iv_list {f : M D} (he : EV X W e f) : IV X W tg e (mIter f) := by
  intro F ρ σ B H R L P
  refine PI.wi (pi_list pe_we) ?_
  refine he F ρ σ B H _ L ((Post.bind P).imp fun d ρ1 B1 H1 e1 L1 P1 v fv => ?_)
  obtain ⟨ds, hd, k⟩ := P1.opt
  cases fv with
  | @lst a xs ds' h fs =>
    injection hd with hd; subst hd
    exact ⟨a, rfl, ⟨xs, .inl (.inl (L1.ex _ _ h))⟩, k B1 H1 (Ex.refl _) L1 _ (it_list h fs)⟩
  | _ => cases hd
def mIterT (f : M D) : M (List D) := M.bind f fun d => M.opt (match d with
  | .tup ds => some ds
  | _ => none)
theorem it_tup {K : PySem.W.Frag} {a : Addr} {xs : List V} {B : Hp} {ds : List D} (h : SqT K B a xs) (fs : Fzs K B xs ds) : ItOk K (Itt K a) B ds where
  go := fun B' H' i e1 e2 hi => by
    have hi' : i < xs.length := by rw [fs.len]; exact hi
    exact ⟨xs, xs[i], e2.st (e1.st h), List.getElem?_eq_getElem hi'⟩
  stop := fun B' H' i e1 e2 hi => ⟨xs, e2.st (e1.st h), by rw [fs.len]; exact hi⟩
  yld := fun B' H' i x H3 d e1 e2 y hd => by
    obtain ⟨hH, hx⟩ := y
    have h1 := hx xs (e2.st (e1.st h))
    obtain ⟨d', hd', f⟩ := fs.getV h1
    rw [hd] at hd'; cases hd'
    exact .inl ⟨hH, f.mono e1⟩
theorem iv_tup {f : M D} (he : EV X W e f) : IV X W tg e (mIterT f) := by
  intro F ρ σ B H R L P
  refine PI.wi (pi_tup pe_we) ?_
  refine he F ρ σ B H _ L ((Post.bind P).imp fun d ρ1 B1 H1 e1 L1 P1 v fv => ?_)
  obtain ⟨ds, hd, k⟩ := P1.opt
  cases fv with
  | @tup a xs ds' h fs =>
    injection hd with hd; subst hd
    exact ⟨a, rfl, ⟨xs, L1.ex.st h⟩, k B1 H1 (Ex.refl _) L1 _ (it_tup h fs)⟩
  | _ => cases hd
/-- range -/
def rangeD (lo hi : Int) : List D := (List.range (hi - lo).toNat).map fun (i : Nat) => D.int (lo + (i : Int))
theorem rangeD_len (lo hi : Int) : (rangeD lo hi).length = (hi - lo).toNat := by unfold rangeD; rw [List.length_map, List.length_range]
theorem it_range {K : PySem.W.Frag} {B : Hp} (lo hi : Int) : ItOk K (Itr lo (hi - lo).toNat) B (rangeD lo hi) where
  go := fun B' H' i e1 e2 h => by rw [rangeD_len] at h; exact h
  stop := fun B' H' i e1 e2 h => by rw [rangeD_len] at h; exact h
  yld := fun B' H' i x H3 d e1 e2 y hd => by
    obtain ⟨hH, hx⟩ := y
    unfold rangeD at hd
    rw [List.getElem?_map] at hd
    cases q : (List.range (hi - lo).toNat)[i]? with
    | none => rw [q] at hd; cases hd
    | some j =>
      rw [q] at hd
      obtain ⟨h1, h2⟩ := List.getElem?_eq_some_iff.mp q
      rw [List.getElem_range] at h2
      injection hd with hd
      subst hd; subst h2
      exact .inl ⟨hH, by rw [hx]; exact .int _⟩
def mRange1 (f : M (List D)) : M (List D) := M.bind f fun ds => M.opt (match ds with
  | [.int j] => if -100000000 < j ∧ j < 100000000 then some (rangeD 0 j) else none
  | _ => none)
def mRange2 (f : M (List D)) : M (List D) := M.bind f fun ds => M.opt (match ds with
  | [.int i, .int j] => if (-100000000 < i ∧ i < 100000000) ∧ (-100000000 < j ∧ j < 100000000) then some (rangeD i j) else none
  | _ => none)
theorem iv_range1 {a : Expr} {p : Pos} {f : M (List D)} (hg : Gl X "range") (hm : X.mg "range" = none) (ha : EA X W [a] f) (hs : starEach [a] X.env = [(false, eval a X.env)] := by rfl) : IV X W tg (.Call (.Name "range" p) [a] [] pos) (mRange1 f) := by
  intro F ρ σ B H R L P
  refine PI.wi (pi_range1 hg hm pa_wa hs) ?_
  refine ha F ρ σ B H _ L ((Post.bind P).imp fun ds ρ1 B1 H1 e1 L1 P1 vs fs => ?_)
  obtain ⟨xs, hd, k⟩ := P1.opt
  split at hd
  · rename_i j
    cases fs with
    | cons f1 fs =>
      cases fs
      cases f1
      split at hd
      · rename_i hj
        injection hd with hd; subst hd
        refine ⟨j, rfl, by omega, by omega, ?_⟩
        have := k B1 H1 (Ex.refl _) L1 (Itr 0 j.toNat) (by have q := it_range (K := X.K) (B := B1) 0 j; rw [show j - 0 = j by omega] at q; exact q)
        exact this
      · cases hd
  · cases hd
theorem iv_range2 {a b : Expr} {p : Pos} {f : M (List D)} (hg : Gl X "range") (hm : X.mg "range" = none) (ha : EA X W [a, b] f) (hs : starEach [a, b] X.env = [(false, eval a X.env), (false, eval b X.env)] := by rfl) (hs2 : starEach [b] X.env = [(false, eval b X.env)] := by rfl) : IV X W tg (.Call (.Name "range" p) [a, b] [] pos) (mRange2 f) := by
  intro F ρ σ B H R L P
  refine PI.wi (pi_range2 hg hm pa_wa hs hs2) ?_
  refine ha F ρ σ B H _ L ((Post.bind P).imp fun ds ρ1 B1 H1 e1 L1 P1 vs fs => ?_)
  obtain ⟨xs, hd, k⟩ := P1.opt
  split at hd
  · rename_i i j
    cases fs with
    | cons f1 fs =>
      cases fs with
      | cons f2 fs =>
        cases fs
        cases f1
        cases f2
        split at hd
        · rename_i hj
          injection hd with hd; subst hd
          exact ⟨i, j, rfl, ⟨by omega, by omega, by omega, by omega⟩, k B1 H1 (Ex.refl _) L1 _ (it_range i j)⟩
        · cases hd
  · cases hd

/-! ### for -/
def mForL (g : D → Env → Option Env) (b : M Fl) : List D → M Fl
  | [] => mNx
  | d :: r => fun ρ => match g d ρ with
    | none => .fail
    | some ρ1 => M.bind b (fun fl => match fl with
      | .nx => mForL g b r
      | .ct => mForL g b r
      | .bk => mNx
      | .rt d o => M.pure (.rt d o)) ρ1
def mFor (f : M (List D)) (g : D → Env → Option Env) (b : M Fl) : M Fl := M.bind f (mForL g b)
theorem sv_for {iter : Expr} {body : List Stmt} {is : List Nat} {f : M (List D)} {g : D → Env → Option Env} {b : M Fl} (hp : PassesOwn (model X.prog X.w) X.A X.env X.xe) (hc : X.calm = true) (hi : IV X W tg iter f) (hg : GV X tg is g) (hb : SVs X W body b)
    (hs : ∀ x, foldedSetIterable iter X.env x = pure x := by intro _; rfl) : SV X W (.For tg iter body [] pos) (mFor f g b) := by
  intro F ρ σ B H N L P
  refine PS.ws (ps_for hp hc pi_wi pg_wg pss_wss hs) ?_
  refine hi F ρ σ B H _ L ((PostS.bind P).imp fun ds ρ1 B1 H1 e1 L1 P1 J hJ => ?_)
  refine ⟨fun i m σ' H' => m = ds.length - i ∧ i ≤ ds.length ∧ ∃ ρ' B', Lv X.K F ρ' σ' B' H' ∧ Ex B1 B' ∧ PostS X W F B' (mForL g b (ds.drop i) ρ') N, ⟨ds.length, by simp, Nat.zero_le _, ρ1, B1, L1, Ex.refl _, P1⟩, ?_⟩
  rintro i m σ2 H2 ⟨rfl, hi2, ρ2, B2, L2, e2, P2⟩
  by_cases hlt : i < ds.length
  · refine .inr ⟨hJ.go B2 H2 i e2 L2.ex hlt, fun σ' H' => ∃ ρ' B', Lv X.K F ρ' σ' B' H' ∧ Ex B1 B' ∧ PostS X W F B' (mForL g b (ds.drop (i + 1)) ρ') N, fun σ' H' q => ⟨ds.length - (i + 1), by omega, rfl, hlt, q⟩, fun x H3 hy => ?_⟩
    rw [List.drop_eq_getElem_cons hlt] at P2
    have hd : ds[i]? = some ds[i] := List.getElem?_eq_getElem hlt
    have fin : ∀ (B3 : Hp), Ex B2 B3 → Lv X.K F ρ2 σ2 B3 H3 → Fz X.K B3 x ds[i] → wg X tg x σ2 H3 (fun σ3 H4 => wss X body { nx := fun σ' H' => ∃ ρ' B', Lv X.K F ρ' σ' B' H' ∧ Ex B1 B' ∧ PostS X W F B' (mForL g b (ds.drop (i + 1)) ρ') N, rt := N.rt, bk := N.nx, ct := fun σ' H' => ∃ ρ' B', Lv X.K F ρ' σ' B' H' ∧ Ex B1 B' ∧ PostS X W F B' (mForL g b (ds.drop (i + 1)) ρ') N } σ3 H4) := by
      intro B3 e3 L3 fx
      refine hg F ρ2 σ2 B3 H3 x ds[i] _ L3 fx ?_
      have P3 : PostS X W F B2 (match g ds[i] ρ2 with | none => .fail | some ρ1 => M.bind b (fun fl => match fl with | .nx => mForL g b (ds.drop (i + 1)) | .ct => mForL g b (ds.drop (i + 1)) | .bk => mNx | .rt d o => M.pure (.rt d o)) ρ1) N := P2
      cases q : g ds[i] ρ2 with
      | none => rw [q] at P3; exact P3.elim
      | some ρ3 =>
        rw [q] at P3
        intro σ4 B4 H4 _ e4 L4
        refine hb F ρ3 σ4 B4 H4 _ L4 ?_
        have P4 := PostS.weak P3 (e3.trans e4)
        have P5 : PostS X W F B4 (M.bind b _ ρ3) N := P4
        unfold M.bind at P5
        cases q2 : b ρ3 with
        | ok fl ρ4 =>
          rw [q2] at P5
          cases fl with
          | nx => exact fun σ' B' H' e' L' => ⟨ρ4, B', L', ((e2.trans e3).trans e4).trans e', PostS.weak P5 e'⟩
          | ct => exact fun σ' B' H' e' L' => ⟨ρ4, B', L', ((e2.trans e3).trans e4).trans e', PostS.weak P5 e'⟩
          | bk => exact P5
          | rt d o => exact P5
        | rz c ρ4 => rw [q2] at P5; exact P5
        | fail => rw [q2] at P5; exact P5
    rcases hJ.yld B2 H2 i x H3 _ e2 L2.ex hy hd with ⟨rfl, fx⟩ | ⟨p, o, hp2, rfl, fx⟩
    · exact fin B2 (Ex.refl _) L2 fx
    · exact fin _ (Ex.new (L2.ex.nn hp2)) (L2.alloc hp2) fx
  · have e : i = ds.length := by omega
    subst e
    rw [List.drop_length] at P2
    exact .inl ⟨hJ.stop B2 H2 _ e2 L2.ex (Nat.le_refl _), P2 σ2 B2 H2 (Ex.refl _) L2⟩
end
end Dt
/-! Dt: operators, calls of builtins, defs and their calls. -/
namespace Dt
open PySem PySem.Spec PyProof.Rows L2

/-! ### operators on ints -/
section
variable {X : Cx} {K : PySem.W.Frag}
def iI (C : Int → Int → Bool) (f : Int → Int → Int) : D → D → Option D
  | .int i, .int j => if C i j = true then some (.int (f i j)) else none
  | _, _ => none
def iB (f : Int → Int → Bool) : D → D → Option D
  | .int i, .int j => some (.bl (f i j))
  | _, _ => none
theorem opd_I {C : Int → Int → Prop} {c : Int → Int → Bool} {f : Int → Int → Int} (hc : ∀ i j, c i j = true → C i j) : OpD K (rI C fun i j => .int (f i j)) (iI c f) := by
  intro x y dx dy d B H Q ex fx fy h g
  unfold iI at h
  split at h
  · cases fx; cases fy
    split at h
    · rename_i hh
      injection h with h; subst h
      exact ⟨_, _, rfl, rfl, hc _ _ hh, g.1 _ (.int _)⟩
    · cases h
  · cases h
theorem opd_I0 {f : Int → Int → Int} : OpD K (rI0 fun i j => .int (f i j)) (iI (fun _ _ => true) f) := by
  intro x y dx dy d B H Q ex fx fy h g
  unfold iI at h
  split at h
  · cases fx; cases fy
    rw [if_pos rfl] at h
    injection h with h; subst h
    exact ⟨_, _, rfl, rfl, g.1 _ (.int _)⟩
  · cases h
theorem opd_B {f : Int → Int → Bool} : OpD K (rI0 fun i j => .bl (f i j)) (iB f) := by
  intro x y dx dy d B H Q ex fx fy h g
  unfold iB at h
  split at h
  · cases fx; cases fy
    injection h with h; subst h
    exact ⟨_, _, rfl, rfl, g.1 _ (.bl _)⟩
  · cases h
/-- * of ints below some hundred million bits together -/
def mulOk (i j : Int) : Bool := decide (i.natAbs.log2 + j.natAbs.log2 < 100000000)
theorem mulOk_ok {i j : Int} (h : mulOk i j = true) : IntMulOk i j := by
  have b : ∀ x : Int, Builtin.Int.intBits x ≤ x.natAbs.log2 + 1 := fun x => by
    unfold Builtin.Int.intBits
    split <;> omega
  have h1 := b i
  have h2 := b j
  have h3 : i.natAbs.log2 + j.natAbs.log2 < 100000000 := of_decide_eq_true h
  have e : bitsLine = 134217728 := by decide
  unfold IntMulOk
  intro z
  rw [Bool.and_eq_true] at z
  have z2 := z.2
  unfold Builtin.Int.intTooBig at z2
  have z3 := of_decide_eq_true z2
  rw [e] at z3
  omega
theorem op_mulB : OpR X (binaryOp .Mult) (rI (fun i j => mulOk i j = true) fun i j => .int (i * j)) := opI fun _ _ _ _ _ _ _ hc q => mul_int q (mulOk_ok hc)
def divOk (_ j : Int) : Bool := decide (j ≠ 0) && decide (j.natAbs.log2 < 9000)
theorem op_fdivB : OpR X (binaryOp .FloorDiv) (rI (fun i j => divOk i j = true) fun i j => .int (i.fdiv j)) := opI fun _ _ _ _ _ _ _ hc q => by
  unfold divOk at hc
  rw [Bool.and_eq_true] at hc
  exact floordiv_int (of_decide_eq_true hc.1) q (.inl (PyProof.noPylong_of_log2 (of_decide_eq_true hc.2)))
def modOk (_ j : Int) : Bool := decide (j ≠ 0)
theorem op_modB : OpR X (binaryOp .Mod) (rI (fun i j => modOk i j = true) fun i j => .int (i.fmod j)) := opI fun _ _ _ _ _ _ _ hc q => mod_int' (of_decide_eq_true hc) q
def powOk (i j : Int) : Bool := decide (0 ≤ j) && decide (j ≤ 1000) && decide (i.natAbs < 2 ^ 64)
theorem op_powB : OpR X (binaryOp .Pow) (rI (fun i j => powOk i j = true) fun i j => .int (i ^ j.toNat)) := opI fun _ _ _ _ _ _ _ hc q => by
  unfold powOk at hc
  rw [Bool.and_eq_true, Bool.and_eq_true] at hc
  have h1 := of_decide_eq_true hc.1.1
  have h2 := of_decide_eq_true hc.1.2
  have h3 := of_decide_eq_true hc.2
  exact pow_int_small h1 (by omega) h3 q
def dSub : D → D → Option D := iI (fun _ _ => true) fun i j => i - j
def dDiv : D → D → Option D := iI divOk fun i j => i.fdiv j
def dMod : D → D → Option D := iI modOk fun i j => i.fmod j
def dPow : D → D → Option D := iI powOk fun i j => i ^ j.toNat
def dLt : D → D → Option D := iB fun i j => decide (i < j)
def dLe : D → D → Option D := iB fun i j => decide (i ≤ j)
def dGt : D → D → Option D := iB fun i j => decide (j < i)
def dGe : D → D → Option D := iB fun i j => decide (j ≤ i)
variable {W : WX} {e a b c : Expr} {pos : Pos} {f1 f2 f3 : M D}
theorem ev_sub (ha : EV X W a f1) (hb : EV X W b f2) : EV X W (.BinOp a .Sub b pos) (mBin dSub f1 f2) := ev_op op_sub opd_I0 ha hb
theorem ev_fdiv (ha : EV X W a f1) (hb : EV X W b f2) : EV X W (.BinOp a .FloorDiv b pos) (mBin dDiv f1 f2) := ev_op op_fdivB (opd_I fun _ _ h => h) ha hb
theorem ev_mod (ha : EV X W a f1) (hb : EV X W b f2) : EV X W (.BinOp a .Mod b pos) (mBin dMod f1 f2) := ev_op op_modB (opd_I fun _ _ h => h) ha hb
theorem ev_pow (ha : EV X W a f1) (hb : EV X W b f2) : EV X W (.BinOp a .Pow b pos) (mBin dPow f1 f2) := ev_op op_powB (opd_I fun _ _ h => h) ha hb
theorem ev_lt (ha : EV X W a f1) (hb : EV X W b f2) : EV X W (.Compare a [.Lt] [b] pos) (mBin dLt f1 f2) := ev_cmp op_lt opd_B ha hb
theorem ev_le (ha : EV X W a f1) (hb : EV X W b f2) : EV X W (.Compare a [.LtE] [b] pos) (mBin dLe f1 f2) := ev_cmp op_le opd_B ha hb
theorem ev_gt (ha : EV X W a f1) (hb : EV X W b f2) : EV X W (.Compare a [.Gt] [b] pos) (mBin dGt f1 f2) := ev_cmp op_gt opd_B ha hb
theorem ev_ge (ha : EV X W a f1) (hb : EV X W b f2) : EV X W (.Compare a [.GtE] [b] pos) (mBin dGe f1 f2) := ev_cmp op_ge opd_B ha hb
theorem et_lt (ha : EV X W a f1) (hb : EV X W b f2) : ET X W (.Compare a [.Lt] [b] pos) (mTest (mBin dLt f1 f2)) := et_cmp op_lt opd_B ha hb
theorem et_le (ha : EV X W a f1) (hb : EV X W b f2) : ET X W (.Compare a [.LtE] [b] pos) (mTest (mBin dLe f1 f2)) := et_cmp op_le opd_B ha hb
theorem et_gt (ha : EV X W a f1) (hb : EV X W b f2) : ET X W (.Compare a [.Gt] [b] pos) (mTest (mBin dGt f1 f2)) := et_cmp op_gt opd_B ha hb
theorem et_ge (ha : EV X W a f1) (hb : EV X W b f2) : ET X W (.Compare a [.GtE] [b] pos) (mTest (mBin dGe f1 f2)) := et_cmp op_ge opd_B ha hb
def dNeg : D → Option D
  | .int i => some (.int (-i))
  | _ => none
theorem ev_neg (ha : EV X W a f1) : EV X W (.UnaryOp .USub a pos) (mUn dNeg f1) := ev_un un_neg (fun x dx d B H Q ex fx h g => by
  cases fx with
  | int i => injection h with h; subst h; exact ⟨i, rfl, g.1 _ (.int _)⟩
  | _ => cases h) ha

/-! ### + and * -/
def tooLong (n : Nat) : Bool := decide (10000000 < n)
def dAdd : D → D → Option D
  | .int i, .int j => some (.int (i + j))
  | .str x, .str y => if tooLong (x.length + y.length) = true then none else some (.str (x ++ y))
  | .lst xs, .lst ys => if tooLong (xs.length + ys.length) = true then none else some (.lst (xs ++ ys))
  | .tup xs, .tup ys => if tooLong (xs.length + ys.length) = true then none else some (.tup (xs ++ ys))
  | _, _ => none
theorem notLong {n : Nat} (h : ¬ tooLong n = true) : n ≤ sizeLine := by
  have h1 : n ≤ 10000000 := by
    unfold tooLong at h
    rw [decide_eq_true_iff] at h
    omega
  exact Nat.le_trans h1 (by decide)
theorem len_line' {n : Nat} (h : n ≤ 10000000) : n ≤ sizeLine := Nat.le_trans h (by decide)
theorem fzs_nil {K : PySem.W.Frag} {B : Hp} {xs : List V} (h : Fzs K B xs []) : xs = [] := by cases h; rfl
theorem ev_add (ha : EV X W a f1) (hb : EV X W b f2) : EV X W (.BinOp a .Add b pos) (mBin dAdd f1 f2) := by
  refine ev_op (((op_add.or op_add_str).or op_catA).or op_cat) (fun x y dx dy d B H Q ex fx fy h g => ?_) ha hb
  cases fx with
  | int i =>
    cases fy with
    | int j => injection h with h; subst h; exact .inl (.inl (.inl ⟨i, j, rfl, rfl, g.1 _ (.int _)⟩))
    | _ => cases h
  | str x =>
    cases fy with
    | str y =>
      have h' : (if tooLong (x.length + y.length) = true then none else some (D.str (x ++ y))) = some d := h
      split at h'
      · cases h'
      · rename_i hl
        injection h' with h'; subst h'
        exact .inl (.inl (.inr ⟨x, y, rfl, rfl, notLong hl, g.1 _ (.str _)⟩))
    | _ => cases h
  | @lst l xs ds hl fs =>
    cases fy with
    | @lst l2 ys es hl2 fs2 =>
      have h' : (if tooLong (ds.length + es.length) = true then none else some (D.lst (ds ++ es))) = some d := h
      split at h'
      · cases h'
      · rename_i hz
        injection h' with h'; subst h'
        refine .inr ⟨l, l2, xs, ys, rfl, rfl, ex _ _ hl, ex _ _ hl2, by rw [fs.len, fs2.len]; exact notLong hz, fun p hp => g.2 p _ _ hp (.lst upd_same ?_)⟩
        exact (fs.append fs2).mono (Ex.new (ex.nn hp))
    | _ => cases h
  | @tup l xs ds hl fs =>
    cases fy with
    | @tup l2 ys es hl2 fs2 =>
      have h' : (if tooLong (ds.length + es.length) = true then none else some (D.tup (ds ++ es))) = some d := h
      split at h'
      · cases h'
      · rename_i hz
        injection h' with h'; subst h'
        refine .inl (.inr ⟨l, l2, xs, ys, rfl, rfl, ex.st hl, ex.st hl2, by rw [fs.len, fs2.len]; exact notLong hz, fun z => ?_, fun _ z => ?_, fun _ _ p hp => g.2 p _ _ hp (.tup (.inl (.inl upd_same)) ((fs.append fs2).mono (Ex.new (ex.nn hp))))⟩)
        · subst z; cases fs; exact g.1 _ (.tup hl2 fs2)
        · subst z; cases fs2
          rw [List.append_nil] at g
          exact g.1 _ (.tup hl fs)
    | _ => cases h
  | _ => cases h

/-! ### * -/
def dMul : D → D → Option D
  | .int i, .int j => if mulOk i j = true then some (.int (i * j)) else none
  | .lst xs, .int k => if k < 10000 ∧ -10000 < k ∧ xs.length ≤ 1000 then some (.lst (List.replicate k.toNat xs).flatten) else none
  | _, _ => none
theorem Fzs.rep {K : PySem.W.Frag} {B : Hp} {vs : List V} {ds : List D} (h : Fzs K B vs ds) : ∀ k : Nat, Fzs K B (List.replicate k vs).flatten (List.replicate k ds).flatten
  | 0 => .nil
  | k + 1 => by
    rw [List.replicate_succ, List.replicate_succ, List.flatten_cons, List.flatten_cons]
    exact Fzs.append h (Fzs.rep h k)
theorem ev_mul (ha : EV X W a f1) (hb : EV X W b f2) : EV X W (.BinOp a .Mult b pos) (mBin dMul f1 f2) := by
  refine ev_op (op_mulB.or op_rep) (fun x y dx dy d B H Q ex fx fy h g => ?_) ha hb
  cases fx with
  | int i =>
    cases fy with
    | int j =>
      have h' : (if mulOk i j = true then some (D.int (i * j)) else none) = some d := h
      split at h'
      · rename_i hm
        injection h' with h'; subst h'; exact .inl ⟨i, j, rfl, rfl, hm, g.1 _ (.int _)⟩
      · cases h'
    | _ => cases h
  | @lst l xs ds hl fs =>
    cases fy with
    | int k =>
      have h' : (if k < 10000 ∧ -10000 < k ∧ ds.length ≤ 1000 then some (D.lst (List.replicate k.toNat ds).flatten) else none) = some d := h
      split at h'
      · rename_i hk
        injection h' with h'; subst h'
        refine .inr ⟨l, k, xs, rfl, rfl, ex _ _ hl, by omega, by omega, ?_, fun p hp => g.2 p _ _ hp (.lst upd_same ((fs.rep k.toNat).mono (Ex.new (ex.nn hp))))⟩
        have h1 : xs.length ≤ 1000 := by rw [fs.len]; exact hk.2.2
        have h2 : k.toNat ≤ 10000 := by omega
        exact len_line' (Nat.le_trans (Nat.mul_le_mul h1 h2) (by decide))
      · cases h'
    | _ => cases h
  | _ => cases h

/-! ### ==, is, in -/
def shp (d : D) : Bool := SeqAt.shaped d.py
def dEq : D → D → Option D
  | .int i, .int j => some (.bl (i == j))
  | .str i, .str j => some (.bl (i == j))
  | d, e => if shp d = true ∧ shp e = true then some (.bl (PyData.eqv d.py e.py)) else none
def dNe : D → D → Option D
  | .int i, .int j => some (.bl (!(i == j)))
  | .str i, .str j => some (.bl (!(i == j)))
  | d, e => if shp d = true ∧ shp e = true then some (.bl (!PyData.eqv d.py e.py)) else none
theorem opd_eq : OpD K (fun x y H Q => rEq x y H Q ∨ rEqD K x y H Q) dEq := by
  intro x y dx dy d B H Q ex fx fy h g
  unfold dEq at h
  split at h
  · cases fx; cases fy
    injection h with h; subst h
    exact .inl ⟨rfl, by rw [dec_int]; exact g.1 _ (.bl _)⟩
  · cases fx; cases fy
    injection h with h; subst h
    exact .inl ⟨rfl, by rw [dec_str]; exact g.1 _ (.bl _)⟩
  · split at h
    · rename_i hh
      injection h with h; subst h
      exact .inr ⟨_, _, fx.dp ex, fy.dp ex, hh.1, hh.2, g.1 _ (.bl _)⟩
    · cases h
theorem opd_ne : OpD K (fun x y H Q => rNe x y H Q ∨ rNeD K x y H Q) dNe := by
  intro x y dx dy d B H Q ex fx fy h g
  unfold dNe at h
  split at h
  · cases fx; cases fy
    injection h with h; subst h
    exact .inl ⟨rfl, by rw [dec_int]; exact g.1 _ (.bl _)⟩
  · cases fx; cases fy
    injection h with h; subst h
    exact .inl ⟨rfl, by rw [dec_str]; exact g.1 _ (.bl _)⟩
  · split at h
    · rename_i hh
      injection h with h; subst h
      exact .inr ⟨_, _, fx.dp ex, fy.dp ex, hh.1, hh.2, g.1 _ (.bl _)⟩
    · cases h
theorem ev_eq (hu : X.A.units + 64 < cLine) (ha : EV X W a f1) (hb : EV X W b f2) : EV X W (.Compare a [.Eq] [b] pos) (mBin dEq f1 f2) := ev_cmp (op_eq.or (op_eqD hu)) opd_eq ha hb
theorem et_eq (hu : X.A.units + 64 < cLine) (ha : EV X W a f1) (hb : EV X W b f2) : ET X W (.Compare a [.Eq] [b] pos) (mTest (mBin dEq f1 f2)) := et_cmp (op_eq.or (op_eqD hu)) opd_eq ha hb
theorem ev_ne (hu : X.A.units + 64 < cLine) (ha : EV X W a f1) (hb : EV X W b f2) : EV X W (.Compare a [.NotEq] [b] pos) (mBin dNe f1 f2) := ev_cmp (op_ne.or (op_neD hu)) opd_ne ha hb
theorem et_ne (hu : X.A.units + 64 < cLine) (ha : EV X W a f1) (hb : EV X W b f2) : ET X W (.Compare a [.NotEq] [b] pos) (mTest (mBin dNe f1 f2)) := et_cmp (op_ne.or (op_neD hu)) opd_ne ha hb
def dIs : D → D → Option D
  | .bl i, .bl j => some (.bl (decide (i = j)))
  | .non, .non => some (.bl true)
  | .lst _, .non => some (.bl false)
  | .tup _, .non => some (.bl false)
  | .int _, .non => some (.bl false)
  | .str _, .non => some (.bl false)
  | _, _ => none
def dIsNot : D → D → Option D
  | .bl i, .bl j => some (.bl (!decide (i = j)))
  | .non, .non => some (.bl false)
  | .lst _, .non => some (.bl true)
  | .tup _, .non => some (.bl true)
  | .int _, .non => some (.bl true)
  | .str _, .non => some (.bl true)
  | _, _ => none
theorem opd_is : OpD K (fun x y H Q => rIsB x y H Q ∨ (y = .non ∧ Q (.bl (decide (x = .non))) H)) dIs := by
  intro x y dx dy d B H Q ex fx fy h g
  cases fy with
  | bl j => cases fx with
    | bl i => injection h with h; subst h; exact .inl ⟨i, j, rfl, rfl, g.1 _ (.bl _)⟩
    | _ => cases h
  | non => cases fx with
    | non => injection h with h; subst h; exact .inr ⟨rfl, g.1 _ (.bl true)⟩
    | lst _ _ => injection h with h; subst h; exact .inr ⟨rfl, g.1 _ (.bl false)⟩
    | tup _ _ => injection h with h; subst h; exact .inr ⟨rfl, g.1 _ (.bl false)⟩
    | int i => injection h with h; subst h; exact .inr ⟨rfl, g.1 _ (.bl false)⟩
    | str i => injection h with h; subst h; exact .inr ⟨rfl, g.1 _ (.bl false)⟩
    | _ => cases h
  | _ => cases fx <;> cases h
theorem opd_isnot : OpD K (fun x y H Q => rNotB x y H Q ∨ (y = .non ∧ Q (.bl (!decide (x = .non))) H)) dIsNot := by
  intro x y dx dy d B H Q ex fx fy h g
  cases fy with
  | bl j => cases fx with
    | bl i => injection h with h; subst h; exact .inl ⟨i, j, rfl, rfl, g.1 _ (.bl _)⟩
    | _ => cases h
  | non => cases fx with
    | non => injection h with h; subst h; exact .inr ⟨rfl, g.1 _ (.bl false)⟩
    | lst _ _ => injection h with h; subst h; exact .inr ⟨rfl, g.1 _ (.bl true)⟩
    | tup _ _ => injection h with h; subst h; exact .inr ⟨rfl, g.1 _ (.bl true)⟩
    | int i => injection h with h; subst h; exact .inr ⟨rfl, g.1 _ (.bl true)⟩
    | str i => injection h with h; subst h; exact .inr ⟨rfl, g.1 _ (.bl true)⟩
    | _ => cases h
  | _ => cases fx <;> cases h
theorem ev_is (ha : EV X W a f1) (hb : EV X W b f2) : EV X W (.Compare a [.Is] [b] pos) (mBin dIs f1 f2) := ev_cmp (op_isBl.or op_isN) opd_is ha hb
theorem et_is (ha : EV X W a f1) (hb : EV X W b f2) : ET X W (.Compare a [.Is] [b] pos) (mTest (mBin dIs f1 f2)) := et_cmp (op_isBl.or op_isN) opd_is ha hb
theorem ev_isnot (ha : EV X W a f1) (hb : EV X W b f2) : EV X W (.Compare a [.IsNot] [b] pos) (mBin dIsNot f1 f2) := ev_cmp (op_notBl.or op_notN) opd_isnot ha hb
theorem et_isnot (ha : EV X W a f1) (hb : EV X W b f2) : ET X W (.Compare a [.IsNot] [b] pos) (mTest (mBin dIsNot f1 f2)) := et_cmp (op_notBl.or op_notN) opd_isnot ha hb
/-- x in a list or tuple of flat things -/
def flatD : D → Bool
  | .non => true
  | .bl _ => true
  | .int _ => true
  | .str _ => true
  | _ => false
def eqF : D → D → Bool
  | .non, .non => true
  | .bl a, .bl b => a == b
  | .bl a, .int b => (if a then 1 else 0) == b
  | .int a, .bl b => a == (if b then 1 else 0)
  | .int a, .int b => a == b
  | .str a, .str b => a == b
  | _, _ => false
theorem Fz.flat {K : PySem.W.Frag} {B : Hp} {v : V} {d : D} (h : Fz K B v d) (f : flatD d = true) : flatV v = true := by
  cases h <;> first | rfl | cases f
theorem Fz.eqF {K : PySem.W.Frag} {B : Hp} {v w : V} {d e : D} (h : Fz K B v d) (g : Fz K B w e) (f : flatD d = true) (f' : flatD e = true) : eqV v w = eqF d e := by
  cases h <;> cases g <;> first | rfl | (exfalso; exact Bool.false_ne_true f) | (exfalso; exact Bool.false_ne_true f')
theorem Fzs.flat {K : PySem.W.Frag} {B : Hp} : ∀ {vs : List V} {ds : List D}, Fzs K B vs ds → ds.all flatD = true → vs.all flatV = true
  | _, _, .nil, _ => rfl
  | _, _, .cons h hs, f => by
    rw [List.all_cons, Bool.and_eq_true] at f ⊢
    exact ⟨h.flat f.1, Fzs.flat hs f.2⟩
theorem Fzs.inF {K : PySem.W.Frag} {B : Hp} {x : V} {dx : D} (fx : Fz K B x dx) (hx : flatD dx = true) : ∀ {vs : List V} {ds : List D}, Fzs K B vs ds → ds.all flatD = true → inV x vs = ds.any (fun y => Dt.eqF y dx)
  | _, _, .nil, _ => rfl
  | _, _, .cons h hs, f => by
    rw [List.all_cons, Bool.and_eq_true] at f
    have ih := Fzs.inF fx hx hs f.2
    unfold inV at ih ⊢
    rw [List.any_cons, List.any_cons, ih, h.eqF fx f.1 hx]
def dIn (neg : Bool) : D → D → Option D := fun x s => match s with
  | .lst ds => if flatD x = true ∧ ds.all flatD = true then some (.bl (if neg then !ds.any (fun y => eqF y x) else ds.any (fun y => eqF y x))) else none
  | .tup ds => if flatD x = true ∧ ds.all flatD = true then some (.bl (if neg then !ds.any (fun y => eqF y x) else ds.any (fun y => eqF y x))) else none
  | _ => none
theorem opd_in {neg : Bool} : OpD K (rIn K neg) (dIn neg) := by
  intro x y dx dy d B H Q ex fx fy h g
  cases fy with
  | @lst l ys ds hl fs =>
    have h' : (if flatD dx = true ∧ ds.all flatD = true then some (D.bl (if neg then !ds.any (fun y => eqF y dx) else ds.any (fun y => eqF y dx))) else none) = some d := h
    split at h'
    · rename_i hh
      injection h' with h'; subst h'
      refine ⟨l, ys, rfl, .inl (.inl (.inl (ex _ _ hl))), fx.flat hh.1, fs.flat hh.2, ?_⟩
      rw [fs.inF fx hh.1 hh.2]
      exact g.1 _ (.bl _)
    · cases h'
  | @tup l ys ds hl fs =>
    have h' : (if flatD dx = true ∧ ds.all flatD = true then some (D.bl (if neg then !ds.any (fun y => eqF y dx) else ds.any (fun y => eqF y dx))) else none) = some d := h
    split at h'
    · rename_i hh
      injection h' with h'; subst h'
      refine ⟨l, ys, rfl, .inr (ex.st hl), fx.flat hh.1, fs.flat hh.2, ?_⟩
      rw [fs.inF fx hh.1 hh.2]
      exact g.1 _ (.bl _)
    · cases h'
  | _ => cases h
theorem ev_in (ha : EV X W a f1) (hb : EV X W b f2) (hm : behindInMarks .In b = false := by rfl) : EV X W (.Compare a [.In] [b] pos) (mBin (dIn false) f1 f2) := ev_cmp op_in_seq opd_in ha hb hm
theorem et_in (ha : EV X W a f1) (hb : EV X W b f2) (hm : behindInMarks .In b = false := by rfl) : ET X W (.Compare a [.In] [b] pos) (mTest (mBin (dIn false) f1 f2)) := et_cmp op_in_seq opd_in ha hb hm
theorem ev_notin (ha : EV X W a f1) (hb : EV X W b f2) (hm : behindInMarks .NotIn b = false := by rfl) : EV X W (.Compare a [.NotIn] [b] pos) (mBin (dIn true) f1 f2) := ev_cmp op_notIn_seq opd_in ha hb hm
theorem et_notin (ha : EV X W a f1) (hb : EV X W b f2) (hm : behindInMarks .NotIn b = false := by rfl) : ET X W (.Compare a [.NotIn] [b] pos) (mTest (mBin (dIn true) f1 f2)) := et_cmp op_notIn_seq opd_in ha hb hm

/-! ### subscripts -/
def dIx : D → D → Option D
  | .lst ds, .int i => atI ds i
  | .tup ds, .int i => atI ds i
  | .scr ns, .int i => (atI ns i).map D.int
  | .str x, .int i => if tooLong x.length = true then none else (atI x.cps.toList i).map fun c => D.str ⟨#[c]⟩
  | _, _ => none
theorem Fzs.atI {K : PySem.W.Frag} {B : Hp} {vs : List V} {ds : List D} {i : Int} {d : D} (h : Fzs K B vs ds) (e : L2.atI ds i = some d) : ∃ v, L2.atI vs i = some v ∧ Fz K B v d := by
  unfold L2.atI at e ⊢
  rw [h.len]
  cases q : ixN ds.length i with
  | none => rw [q] at e; cases e
  | some j =>
    rw [q] at e
    exact h.get e
theorem opd_ix : OpD K (rIx K) dIx := by
  intro x y dx dy d B H Q ex fx fy h g
  cases fx with
  | @lst l xs ds hl fs =>
    cases fy with
    | int i =>
      obtain ⟨v, h1, h2⟩ := fs.atI (show L2.atI ds i = some d from h)
      exact .inl ⟨l, xs, i, v, rfl, rfl, .inl (.inl (ex _ _ hl)), h1, g.1 _ h2⟩
    | _ => cases h
  | @tup l xs ds hl fs =>
    cases fy with
    | int i =>
      obtain ⟨v, h1, h2⟩ := fs.atI (show L2.atI ds i = some d from h)
      exact .inr (.inl ⟨l, xs, i, v, rfl, rfl, ex.st hl, h1, g.1 _ h2⟩)
    | _ => cases h
  | @scr l ns hl =>
    cases fy with
    | int i =>
      have h' : (L2.atI ns i).map D.int = some d := h
      cases q : L2.atI ns i with
      | none => rw [q] at h'; cases h'
      | some n =>
        rw [q] at h'
        injection h' with h'; subst h'
        refine .inl ⟨l, ns.map V.int, i, .int n, rfl, rfl, ex.sl hl, ?_, g.1 _ (.int n)⟩
        unfold L2.atI at q ⊢
        rw [List.length_map]
        cases q2 : ixN ns.length i with
        | none => rw [q2] at q; cases q
        | some j =>
          rw [q2] at q
          have q' : ns[j]? = some n := q
          show (ns.map V.int)[j]? = some (V.int n)
          rw [List.getElem?_map, q']; rfl
    | _ => cases h
  | str x =>
    cases fy with
    | int i =>
      have h' : (if tooLong x.length = true then none else (L2.atI x.cps.toList i).map fun c => D.str ⟨#[c]⟩) = some d := h
      split at h'
      · cases h'
      · rename_i hz
        cases q : L2.atI x.cps.toList i with
        | none => rw [q] at h'; cases h'
        | some c =>
          rw [q] at h'
          injection h' with h'; subst h'
          exact .inr (.inr ⟨x, i, c, rfl, rfl, notLong hz, q, g.1 _ (.str _)⟩)
    | _ => cases h
  | _ => cases h
theorem ev_item (ha : EV X W a f1) (hb : EV X W b f2) (hs : PlainIx b := by exact fun _ _ => rfl) : EV X W (.Subscript a b pos) (mBin dIx f1 f2) := ev_ix ix_seq opd_ix ha hb hs
end
end Dt
/-! Dt: defs and their calls; raise; builtins; owned lists. -/
namespace Dt
open PySem PySem.Spec PyProof.Rows L2

/-! ### what a call leaves -/
structure Cr (A : Addr → Prop) (B H B' H' : Hp) : Prop where
  ex : Ex B' H'
  exB : Ex B B'
  kept : ∀ a o, H a = some o → ¬ A a → H' a = some o
  hid : ∀ a, B a = none → H a ≠ none → ¬ A a → B' a = none
  there : ∀ a, H a ≠ none → H' a ≠ none
theorem Lv.callN {K : PySem.W.Frag} {F : Fr} {ρ : Env} {σ : St} {B H B' H' : Hp} {A : Addr → Prop} (L : Lv K F ρ σ B H) (c : Cr A B H B' H') (hA : ∀ b, A b → F.A b ∨ F.H0 b = none) (no : ∀ b, A b → ¬ OwS ρ σ b) : Lv K F ρ σ B' H' := by
  refine ⟨c.ex, fun a o e n => ?_, fun a e => c.there a (L.there a e), L.exB.trans c.exB, fun a e n k => ?_, fun i d e => ?_, fun i s e w => ?_, L.io, L.ne, L.len⟩
  · refine c.kept a o (L.kept a o e n) fun z => ?_
    rcases hA a z with q | q
    · exact n q
    · rw [q] at e; cases e
  · refine c.hid a (L.hid a e n k) (L.there a n) fun z => ?_
    rcases hA a z with q | q
    · exact k q
    · exact n q
  · obtain ⟨v, e1, f⟩ := L.fz i d e
    exact ⟨v, e1, f.mono c.exB⟩
  · obtain ⟨a, e1, f, g⟩ := L.ow i s e w
    have na : ¬ A a := fun z => no a z ⟨i, s, e, w, e1⟩
    exact ⟨a, e1, f.keep c.exB (c.hid a f.hid f.there na) (fun o q => c.kept a o q na), g⟩

/-! ### a function's meaning -/
inductive Rf where
  | ok (d : D) (o : Bool) (out : D)
  | rz (c : Str)
  | fail
inductive Args (K : PySem.W.Frag) (B H : Hp) (a : Addr) : Option Nat → List V → List D → Prop
  | nil : Args K B H a none [] []
  | fz {v : V} {d : D} {vs : List V} {ds : List D} : Fz K B v d → Args K B H a none vs ds → Args K B H a none (v :: vs) (d :: ds)
  | io {d : D} {vs : List V} {ds : List D} : Ow K B H a d → Args K B H a none vs ds → Args K B H a (some 0) (.ref a :: vs) (d :: ds)
  | fzS {j : Nat} {v : V} {d : D} {vs : List V} {ds : List D} : Fz K B v d → Args K B H a (some j) vs ds → Args K B H a (some (j + 1)) (v :: vs) (d :: ds)
def initS : Option Nat → List D → List Slot
  | _, [] => []
  | none, d :: r => .fz d :: initS none r
  | some 0, d :: r => .io d :: initS none r
  | some (j + 1), d :: r => .fz d :: initS (some j) r
def initE (m : Option Nat) (n : Nat) (ds : List D) : Env := initS m ds ++ List.replicate (n - ds.length) .un
def fin (m : Option Nat) (d : D) (o : Bool) (ρ : Env) : Rf := match m with
  | none => .ok d o .non
  | some j => match ρ[j]? with
    | some (.io out) => .ok d o out
    | _ => .fail
def runF (m : Option Nat) (n : Nat) (fb : M Fl) (ds : List D) : Rf := match fb (initE m n ds) with
  | .ok .nx ρ => fin m .non false ρ
  | .ok (.rt d o) ρ => fin m d o ρ
  | .rz c _ => .rz c
  | _ => .fail
def frP (m : Option Nat) (a : Addr) : List (Option Addr) := match m with
  | none => []
  | some j => List.replicate j none ++ [some a]
def ioA (m : Option Nat) (a : Addr) (b : Addr) : Prop := m ≠ none ∧ b = a
def frOf (m : Option Nat) (a : Addr) (B H : Hp) : Fr := ⟨B, H, ioA m a, frP m a⟩
def RV (K : PySem.W.Frag) (H B' H' : Hp) (v : V) (d : D) : Bool → Prop
  | true => ∃ p, v = .ref p ∧ Ow K B' H' p d ∧ H p = none
  | false => Fz K B' v d
def spF (K : PySem.W.Frag) (mg : Str → Option Value) (n : Nat) (m : Option Nat) (g : List D → Rf) : Sp := fun vs H Q E => ∃ (B : Hp) (ds : List D) (a : Addr), Ex B H ∧ Args K B H a m vs ds ∧ vs.length = n ∧
  match g ds with
  | .ok d o out => ∀ v B' H', Cr (ioA m a) B H B' H' → (m ≠ none → Ow K B' H' a out) → RV K H B' H' v d o → Q v H'
  | .rz c => ∀ B' H', Cr (ioA m a) B H B' H' → E ((mg c).getD .none) none H'
  | .fail => False
section
variable {K : PySem.W.Frag} {B H : Hp} {a : Addr}
theorem Args.len : ∀ {m : Option Nat} {vs : List V} {ds : List D}, Args K B H a m vs ds → vs.length = ds.length
  | _, _, _, .nil => rfl
  | _, _, _, .fz _ r => by rw [List.length_cons, List.length_cons, Args.len r]
  | _, _, _, .io _ r => by rw [List.length_cons, List.length_cons, Args.len r]
  | _, _, _, .fzS _ r => by rw [List.length_cons, List.length_cons, Args.len r]
theorem initS_len : ∀ (m : Option Nat) (ds : List D), (initS m ds).length = ds.length
  | none, [] => rfl
  | some 0, [] => rfl
  | some (_ + 1), [] => rfl
  | none, d :: r => by show (initS none r).length + 1 = _; rw [initS_len none r]; rfl
  | some 0, d :: r => by show (initS none r).length + 1 = _; rw [initS_len none r]; rfl
  | some (j + 1), d :: r => by show (initS (some j) r).length + 1 = _; rw [initS_len (some j) r]; rfl
theorem Args.getF : ∀ {m : Option Nat} {vs : List V} {ds : List D} {i : Nat} {d : D}, Args K B H a m vs ds → (initS m ds)[i]? = some (.fz d) → ∃ v, vs[i]? = some v ∧ Fz K B v d
  | _, _, _, _, _, .nil, e => by simp [initS] at e
  | _, _, _, 0, _, .fz f _, e => by
    injection (show some (Slot.fz _) = some (Slot.fz _) from e) with e; injection e with e; subst e; exact ⟨_, rfl, f⟩
  | _, _, _, i + 1, d, .fz _ r, e => Args.getF (i := i) (d := d) r e
  | _, _, _, 0, _, .io _ _, e => by injection (show some (Slot.io _) = some (Slot.fz _) from e) with e; cases e
  | _, _, _, i + 1, d, .io _ r, e => Args.getF (i := i) (d := d) r e
  | _, _, _, 0, _, .fzS f _, e => by
    injection (show some (Slot.fz _) = some (Slot.fz _) from e) with e; injection e with e; subst e; exact ⟨_, rfl, f⟩
  | _, _, _, i + 1, d, .fzS _ r, e => Args.getF (i := i) (d := d) r e
theorem Args.getO : ∀ {m : Option Nat} {vs : List V} {ds : List D} {i : Nat} {s : Slot}, Args K B H a m vs ds → (initS m ds)[i]? = some s → owned s = true → m = some i ∧ vs[i]? = some (.ref a) ∧ Ow K B H a s.dat ∧ ∃ d, s = .io d
  | _, _, _, _, _, .nil, e, _ => by simp [initS] at e
  | _, _, _, 0, _, .fz f _, e, w => by injection (show some (Slot.fz _) = some _ from e) with e; subst e; cases w
  | _, _, _, i + 1, s, .fz _ r, e, w => by obtain ⟨h, _⟩ := Args.getO (i := i) (s := s) r e w; cases h
  | _, _, _, 0, _, .io f _, e, w => by injection (show some (Slot.io _) = some _ from e) with e; subst e; exact ⟨rfl, rfl, f, _, rfl⟩
  | _, _, _, i + 1, s, .io _ r, e, w => by obtain ⟨h, _⟩ := Args.getO (i := i) (s := s) r e w; cases h
  | _, _, _, 0, _, .fzS f _, e, w => by injection (show some (Slot.fz _) = some _ from e) with e; subst e; cases w
  | _, _, _, i + 1, s, .fzS _ r, e, w => by
    obtain ⟨h, q⟩ := Args.getO (i := i) (s := s) r e w
    injection h with h; subst h
    exact ⟨rfl, q⟩
theorem Args.own : ∀ {m : Option Nat} {vs : List V} {ds : List D}, Args K B H a m vs ds → m ≠ none → B a = none ∧ H a ≠ none
  | _, _, _, .nil, h => absurd rfl h
  | _, _, _, .fz _ _, h => absurd rfl h
  | _, _, _, .io w _, _ => ⟨w.hid, w.there⟩
  | _, _, _, .fzS _ r, _ => Args.own r (by simp)
theorem lv_start {m : Option Nat} {vs : List V} {ds : List D} {N : List Str} (A : Args K B H a m vs ds) (ex : Ex B H) (hN : vs.length ≤ N.length) :
    Lv K (frOf m a B H) (initE m N.length ds) (L2.start N vs) B H := by
  have hl := A.len
  have hs : ∀ {i : Nat} {s : Slot}, (initE m N.length ds)[i]? = some s → s = .un ∨ (initS m ds)[i]? = some s ∧ i < vs.length := fun {i s} e => by
    unfold initE at e
    by_cases h : i < (initS m ds).length
    · rw [List.getElem?_append_left h] at e
      exact .inr ⟨e, by rw [initS_len] at h; omega⟩
    · rw [List.getElem?_append_right (by omega)] at e
      exact .inl (List.eq_of_mem_replicate (List.mem_of_getElem? e))
  have ht : ∀ {i : Nat} {v : V}, vs[i]? = some v → (L2.start N vs)[i]? = some (some v) := fun {i v} e => by
    unfold L2.start
    have h := (List.getElem?_eq_some_iff.mp e).1
    rw [List.getElem?_append_left (by rw [List.length_map]; exact h), List.getElem?_map, e]; rfl
  refine ⟨ex, fun _ _ h _ => h, fun _ h => h, Ex.refl _, fun _ h _ _ => h, fun i d e => ?_, fun i s e w => ?_, fun i d e => ?_, fun i j s t b e1 w1 e2 w2 q1 q2 => ?_, ?_⟩
  · rcases hs e with z | ⟨e, _⟩
    · cases z
    · obtain ⟨v, e1, f⟩ := A.getF e
      exact ⟨v, ht e1, f⟩
  · rcases hs e with z | ⟨e, _⟩
    · subst z; cases w
    · obtain ⟨h1, h2, h3, _⟩ := A.getO e w
      exact ⟨a, ht h2, h3, .inl ⟨by rw [h1]; simp, rfl⟩⟩
  · rcases hs e with z | ⟨e, _⟩
    · cases z
    · obtain ⟨h1, h2, h3, _⟩ := A.getO e rfl
      subst h1
      refine ⟨a, ?_, ht h2⟩
      show (List.replicate i none ++ [some a])[i]? = some (some a)
      rw [List.getElem?_append_right (by rw [List.length_replicate]; omega), List.length_replicate, Nat.sub_self]; rfl
  · rcases hs e1 with z | ⟨e1, _⟩
    · subst z; cases w1
    · rcases hs e2 with z | ⟨e2, _⟩
      · subst z; cases w2
      · obtain ⟨h1, _⟩ := A.getO e1 w1
        obtain ⟨h2, _⟩ := A.getO e2 w2
        rw [h1] at h2; injection h2
  · show (initS m ds ++ List.replicate (N.length - ds.length) Slot.un).length = (vs.map some ++ List.replicate (N.length - vs.length) none).length
    rw [List.length_append, List.length_append, initS_len, List.length_replicate, List.length_replicate, List.length_map, hl]
end

/-! ### a def keeps its meaning -/
theorem fn_def {P : Program} {w : World} {K : PySem.W.Frag} {mg : Str → Option Value} {base : Heap} {x qual : Str} {st : Stmt} {f : Addr} {fd : FuncData} {N ps : List Str} {k : Nat} {m : Option Nat} {fb : M Fl} (F : Fun K x qual st f fd) (S : FnScope N ps (defScope st)) (hps : ps.length ≤ N.length)
    (hbody : ∀ (cdv : Value) (A : Around) (outer : List PySem.Env) (s : Shared) (H : Hp) (E : XK), Room k (A.deeper (envOfC qual (defScope st) s.heap.objs.size f cdv)) →
      SVs (cxOf (L2.CX P w) P w K mg base N qual (defScope st) f cdv A outer s H E) (fun cls d _ H => E cls d H) (defBody st) fb) : FnOk P w K mg base (L2.CX P w) (k + 1) f fd ps (spF K mg ps.length m (runF m N.length fb)) := by
  refine F.okX S (fun vs H Q E h => by obtain ⟨_, _, _, _, _, h, _⟩ := h; exact h) (fun cdv A outer s H vs Q E hr h => ?_)
  refine ⟨_, pss_wss, ?_⟩
  obtain ⟨B, ds, a, ex, ar, hl, h⟩ := h
  have L := lv_start (N := N) ar ex (by omega)
  have done : ∀ {d : D} {o : Bool} {ρ' : Env} {v : V} {σ' : St} {B' H' : Hp}, (match fin m d o ρ' with
      | .ok d o out => ∀ v B' H', Cr (ioA m a) B H B' H' → (m ≠ none → Ow K B' H' a out) → RV K H B' H' v d o → Q v H'
      | .rz c => ∀ B' H', Cr (ioA m a) B H B' H' → E ((mg c).getD .none) none H'
      | .fail => False) → Lv K (frOf m a B H) ρ' σ' B' H' → VO K (frOf m a B H) ρ' σ' B' H' v d o → Q v H' := by
    intro d o ρ' v σ' B' H' hq L' vo
    have cr : Cr (ioA m a) B H B' H' := ⟨L'.ex, L'.exB, L'.kept, L'.hid, L'.there⟩
    cases m with
    | none =>
      refine hq v B' H' cr (fun z => absurd rfl z) ?_
      cases o with
      | false => exact vo
      | true =>
        obtain ⟨p, e, ow, g, no⟩ := vo
        refine ⟨p, e, ow, ?_⟩
        rcases g with g | g
        · exact absurd rfl g.1
        · exact g
    | some j =>
      unfold fin at hq
      cases q : ρ'[j]? with
      | none => simp only [q] at hq
      | some sl =>
        cases sl with
        | io out =>
          simp only [q] at hq
          obtain ⟨b, e1, w1, _⟩ := L'.ow j _ q rfl
          obtain ⟨b', p1, e2⟩ := L'.io j _ q
          have hb : b' = a := by
            have p1' : (List.replicate j none ++ [some a])[j]? = some (some b') := p1
            rw [List.getElem?_append_right (by rw [List.length_replicate]; omega), List.length_replicate, Nat.sub_self] at p1'
            injection p1' with z; injection z with z; exact z.symm
          have hb2 : b = b' := by rw [e1] at e2; injection e2 with z; injection z with z; injection z
          subst hb2; subst hb
          refine hq v B' H' cr (fun _ => w1) ?_
          cases o with
          | false => exact vo
          | true =>
            obtain ⟨p, e, ow, g, no⟩ := vo
            refine ⟨p, e, ow, ?_⟩
            rcases g with g | g
            · obtain ⟨_, rfl⟩ := g
              exact absurd ⟨j, _, q, rfl, e1⟩ no
            · exact g
        | un => simp only [q] at hq
        | fz _ => simp only [q] at hq
        | ow _ => simp only [q] at hq
  refine hbody cdv A outer s H E hr _ _ _ B H _ L ?_
  unfold runF at h
  cases q : fb (initE m N.length ds) with
  | ok fl ρ' =>
    rw [q] at h
    cases fl with
    | nx => exact fun σ' B' H' e' L' => done (v := .non) h L' (show Fz K B' V.non D.non from .non)
    | rt d o => exact fun v σ' B' H' e' L' vo => done h L' vo
    | bk => exact h.elim
    | ct => exact h.elim
  | rz c ρ' =>
    rw [q] at h
    exact fun σ' B' H' e' L' => h B' H' ⟨L'.ex, L'.exB, L'.kept, L'.hid, L'.there⟩
  | fail => rw [q] at h; exact h.elim

/-! ### a call -/
inductive AV where
  | v (d : D)
  | s (i : Nat)
inductive AOks (K : PySem.W.Frag) (B : Hp) (σ : St) : List V → List AV → Prop
  | nil : AOks K B σ [] []
  | v {x : V} {d : D} {xs : List V} {avs : List AV} : Fz K B x d → AOks K B σ xs avs → AOks K B σ (x :: xs) (.v d :: avs)
  | s {x : V} {i : Nat} {xs : List V} {avs : List AV} : σ[i]? = some (some x) → AOks K B σ xs avs → AOks K B σ (x :: xs) (.s i :: avs)
theorem AOks.mono {K : PySem.W.Frag} {B B' : Hp} {σ : St} (e : Ex B B') : ∀ {xs : List V} {avs : List AV}, AOks K B σ xs avs → AOks K B' σ xs avs
  | _, _, .nil => .nil
  | _, _, .v f r => .v (f.mono e) (AOks.mono e r)
  | _, _, .s f r => .s f (AOks.mono e r)
def EX (X : Cx) (W : WX) (es : List Expr) (f : M (List AV)) : Prop := ∀ (F : Fr) (ρ : Env) (σ : St) (B H : Hp) (Q : List V → Hp → Prop), Lv X.K F ρ σ B H →
  Post X W F σ B (f ρ) (fun avs _ B' H' => ∀ vs, AOks X.K B' σ vs avs → Q vs H') → wa X es σ H Q
def xNil : M (List AV) := M.pure []
def xV (f : M D) (g : M (List AV)) : M (List AV) := M.bind f fun x => M.bind g fun xs => M.pure (.v x :: xs)
def xS (i : Nat) (g : M (List AV)) : M (List AV) := M.bind (fun ρ => match ρ[i]? with
  | some (.ow _) => .ok () ρ
  | some (.io _) => .ok () ρ
  | _ => .fail) fun _ => M.bind g fun xs => M.pure (.s i :: xs)
section
variable {X : Cx} {W : WX} {e : Expr} {es : List Expr} {pos : Pos}
theorem ex_nil : EX X W [] xNil := fun F ρ σ B H Q L P => PA.wa pa_nil (P B H (Ex.refl _) L [] .nil)
theorem ex_v {f : M D} {g : M (List AV)} (ha : EV X W e f) (hr : EX X W es g) (hs : starEach (e :: es) X.env = (false, eval e X.env) :: starEach es X.env := by rfl) : EX X W (e :: es) (xV f g) := by
  intro F ρ σ B H Q L P
  refine PA.wa (pa_cons pe_we pa_wa hs) ?_
  refine ha F ρ σ B H _ L ((Post.bind P).imp fun dx ρ1 B1 H1 e1 L1 P1 x fx => ?_)
  refine hr F ρ1 σ B1 H1 _ L1 ((Post.bind P1).imp fun ds ρ2 B2 H2 e2 L2 P2 xs fs => ?_)
  exact P2 B2 H2 (Ex.refl _) L2 _ (.v (fx.mono e2) fs)
theorem ex_s (i : Nat) {x : Str} {p : Pos} {g : M (List AV)} (hr : EX X W es g) (hN : X.N[i]? = some x := by rfl) (hv : Vis X.env.scope x := by first | exact Or.inl rfl | exact Or.inr (Or.inl rfl) | exact Or.inr (Or.inr rfl)) (hd : (x == ("__debug__" : Str)) = false := by decide)
    (hcd : (x == ("__classdict__" : Str)) = false := by decide) (hs : starEach (.Name x p :: es) X.env = (false, eval (.Name x p) X.env) :: starEach es X.env := by rfl) : EX X W (.Name x p :: es) (xS i g) := by
  intro F ρ σ B H Q L P
  refine PA.wa (pa_cons (pe_var hN hv hd hcd) pa_wa hs) ?_
  have P1 := Post.bind P
  have go : ∀ {v : V}, σ[i]? = some (some v) → Post X W F σ B ((M.bind g fun xs => M.pure (.s i :: xs)) ρ) (fun avs _ B' H' => ∀ vs, AOks X.K B' σ vs avs → Q vs H') → (tVar i σ H fun x H1 => wa X es σ H1 fun xs H2 => Q (x :: xs) H2) := by
    intro v ev P2
    refine ⟨v, ev, ?_⟩
    refine hr F ρ σ B H _ L ((Post.bind P2).imp fun ds ρ2 B2 H2 e2 L2 P2 xs fs => ?_)
    exact P2 B2 H2 (Ex.refl _) L2 _ (.s ev fs)
  cases q : ρ[i]? with
  | none => simp only [q] at P1; exact P1.elim
  | some sl =>
    cases sl with
    | ow d =>
      simp only [q] at P1
      obtain ⟨a, e1, _⟩ := L.ow i _ q rfl
      exact go e1 (P1 B H (Ex.refl _) L)
    | io d =>
      simp only [q] at P1
      obtain ⟨a, e1, _⟩ := L.ow i _ q rfl
      exact go e1 (P1 B H (Ex.refl _) L)
    | un => simp only [q] at P1; exact P1.elim
    | fz d => simp only [q] at P1; exact P1.elim
def contS : Option Slot → Option D
  | some (.ow d) => some d
  | some (.io d) => some d
  | _ => none
def setup (ρ : Env) : Option Nat → List AV → Option (List D)
  | none, [] => some []
  | none, .v d :: r => (setup ρ none r).map (d :: ·)
  | some 0, .s i :: r => (contS ρ[i]?).bind fun d => (setup ρ none r).map (d :: ·)
  | some (j + 1), .v d :: r => (setup ρ (some j) r).map (d :: ·)
  | _, _ => none
/-- the slot that is handed in and out -/
def slotOf : Option Nat → List AV → Option Nat
  | some 0, .s i :: _ => some i
  | some (j + 1), _ :: r => slotOf (some j) r
  | _, _ => none
def reslot (s : Option Slot) (d : D) : Slot := match s with
  | some (.ow _) => .ow d
  | some (.io _) => .io d
  | _ => .un
def mCallF (m : Option Nat) (g : List D → Rf) (f : M (List AV)) : M (D × Bool) := M.bind f fun avs ρ => match setup ρ m avs with
  | none => .fail
  | some ds => match g ds with
    | .ok d o out => .ok (d, o) (match slotOf m avs with
      | none => ρ
      | some i => ρ.set i (reslot ρ[i]? out))
    | .rz c => .rz c (match slotOf m avs with
      | none => ρ
      | some i => ρ.set i .un)
    | .fail => .fail
theorem setup_none {K : PySem.W.Frag} {B H : Hp} {σ : St} {ρ : Env} {a : Addr} : ∀ {vs : List V} {avs : List AV} {ds : List D}, AOks K B σ vs avs → setup ρ none avs = some ds → Args K B H a none vs ds
  | _, _, _, .nil, h => by injection h with h; subst h; exact .nil
  | _, _, _, .v f r, h => by
    have h' : (setup ρ none _).map (_ :: ·) = some _ := h
    cases q : setup ρ none _ with
    | none => rw [q] at h'; cases h'
    | some ds => rw [q] at h'; injection h' with h'; subst h'; exact .fz f (setup_none r q)
  | _, _, _, .s _ _, h => by cases (show (none : Option (List D)) = some _ from h)
theorem slotOf_none : ∀ (avs : List AV), slotOf none avs = none
  | [] => rfl
  | .v _ :: _ => rfl
  | .s _ :: _ => rfl
/-- with one in-out argument -/
theorem setup_some {K : PySem.W.Frag} {F : Fr} {B H : Hp} {σ : St} {ρ : Env} (L : Lv K F ρ σ B H) : ∀ {j : Nat} {vs : List V} {avs : List AV} {ds : List D}, AOks K B σ vs avs → setup ρ (some j) avs = some ds →
    ∃ i s a, slotOf (some j) avs = some i ∧ ρ[i]? = some s ∧ owned s = true ∧ σ[i]? = some (some (.ref a)) ∧ Args K B H a (some j) vs ds
  | 0, _, _, _, .s (x := x) (i := i) f r, h => by
    have h' : (contS ρ[i]?).bind (fun d => (setup ρ none _).map (d :: ·)) = some _ := h
    cases q : contS ρ[i]? with
    | none => rw [q] at h'; cases h'
    | some d =>
      rw [q] at h'
      have h2 : (setup ρ none _).map (d :: ·) = some _ := h'
      cases q2 : setup ρ none _ with
      | none => rw [q2] at h2; cases h2
      | some ds =>
        rw [q2] at h2; injection h2 with h2; subst h2
        cases q3 : ρ[i]? with
        | none => rw [q3] at q; cases q
        | some s =>
          rw [q3] at q
          have ho : owned s = true ∧ s.dat = d := by
            cases s with
            | ow d' => injection q with q; exact ⟨rfl, q⟩
            | io d' => injection q with q; exact ⟨rfl, q⟩
            | un => cases q
            | fz d' => cases q
          obtain ⟨a, e1, w, g⟩ := L.ow i s q3 ho.1
          rw [e1] at f
          injection f with f; injection f with f; subst f
          rw [ho.2] at w
          exact ⟨i, s, a, rfl, q3, ho.1, e1, .io w (setup_none r q2)⟩
  | j + 1, _, _, _, .v (d := d) f r, h => by
    have h' : (setup ρ (some j) _).map (d :: ·) = some _ := h
    cases q : setup ρ (some j) _ with
    | none => rw [q] at h'; cases h'
    | some ds =>
      rw [q] at h'; injection h' with h'; subst h'
      obtain ⟨i, s, a, h1, h2, h3, h4, h5⟩ := setup_some L r q
      exact ⟨i, s, a, h1, h2, h3, h4, .fzS f h5⟩
  | 0, _, _, _, .nil, h => by cases (show (none : Option (List D)) = some _ from h)
  | 0, _, _, _, .v _ _, h => by cases (show (none : Option (List D)) = some _ from h)
  | _ + 1, _, _, _, .nil, h => by cases (show (none : Option (List D)) = some _ from h)
  | _ + 1, _, _, _, .s _ _, h => by cases (show (none : Option (List D)) = some _ from h)
/-- what a call's promise wants, from the outcome -/
theorem call_sp {F : Fr} {ρ : Env} {σ : St} {B H : Hp} {Q : VK} {m : Option Nat} {g : List D → Rf} {n : Nat} {avs : List AV} {vs : List V} (L : Lv X.K F ρ σ B H) (fs : AOks X.K B σ vs avs) (hn : vs.length = n)
    (P : Post X W F σ B ((match setup ρ m avs with
      | none => Rs.fail
      | some ds => match g ds with
        | .ok d o out => .ok (d, o) (match slotOf m avs with | none => ρ | some i => ρ.set i (reslot ρ[i]? out))
        | .rz c => .rz c (match slotOf m avs with | none => ρ | some i => ρ.set i .un)
        | .fail => .fail) : Rs (D × Bool)) (fun p ρ' B' H' => ∀ v, VO X.K F ρ' σ B' H' v p.1 p.2 → Q v H')) : spF X.K X.mg n m g vs H Q (WE W σ) := by
  cases q : setup ρ m avs with
  | none => rw [q] at P; exact P.elim
  | some ds =>
    rw [q] at P
    cases m with
    | none =>
      rw [slotOf_none] at P
      refine ⟨B, ds, 0, L.ex, setup_none fs q, hn, ?_⟩
      have hA : ∀ b, ioA none 0 b → F.A b ∨ F.H0 b = none := fun b z => absurd rfl z.1
      have hO : ∀ b, ioA none 0 b → ¬ OwS ρ σ b := fun b z => absurd rfl z.1
      cases q2 : g ds with
      | ok d o out =>
        simp only [q2] at P ⊢
        intro v B' H' cr _ rv
        have L' := L.callN cr hA hO
        refine P B' H' cr.exB L' v ?_
        cases o with
        | false => exact rv
        | true =>
          obtain ⟨p, e, w, n0⟩ := rv
          exact ⟨p, e, w, .inr (L.free n0), fun z => (L.hidOw z).2 n0⟩
      | rz c =>
        simp only [q2] at P ⊢
        exact fun B' H' cr => P B' H' cr.exB (L.callN cr hA hO)
      | fail => simp only [q2] at P; exact P.elim
    | some j =>
      obtain ⟨i, s, a, hsl, hs, ho, hsig, ar⟩ := setup_some L fs q
      rw [hsl] at P
      refine ⟨B, ds, a, L.ex, ar, hn, ?_⟩
      obtain ⟨a', q', w0, g0⟩ := L.ow i s hs ho
      obtain rfl : a = a' := by rw [hsig] at q'; injection q' with z; injection z with z; injection z
      have hA : ∀ b, ioA (some j) a b → F.A b ∨ F.H0 b = none := fun b z => by rw [z.2]; exact g0
      have L1 : Lv X.K F (ρ.set i .un) σ B H := L.slot rfl (fun d z => nomatch z)
      have hO : ∀ b, ioA (some j) a b → ¬ OwS (ρ.set i .un) σ b := fun b z ⟨j', s', e1, w1, q1⟩ => by
        rw [z.2] at q1
        rcases get_set e1 with ⟨rfl, z, l⟩ | ⟨n, e1⟩
        · rw [z] at w1; cases w1
        · exact n (L.ne j' i s' s a e1 w1 hs ho q1 hsig)
      cases q2 : g ds with
      | ok d o out =>
        simp only [q2] at P ⊢
        intro v B' H' cr wo rv
        have L2 := L1.callN cr hA hO
        have L3 := L2.own (i := i) (t := reslot ρ[i]? out) (a := a) hsig (by
            rw [hs]
            cases s with
            | ow d' => exact wo (by simp)
            | io d' => exact wo (by simp)
            | un => cases ho
            | fz d' => cases ho) g0 (fun j' s' e1 w1 q1 => by
              rcases get_set e1 with ⟨rfl, z, l⟩ | ⟨n, e1⟩
              · rfl
              · exact absurd ⟨j', s', by rw [List.getElem?_set_ne (Ne.symm n)]; exact e1, w1, q1⟩ (hO a ⟨by simp, rfl⟩)) (by
            rw [hs]
            cases s with
            | ow d' => rfl
            | io d' => rfl
            | un => cases ho
            | fz d' => cases ho) (fun d' z => by
            rw [hs] at z
            cases s with
            | ow d' => cases z
            | io d'' =>
              obtain ⟨b, p1, p2⟩ := L.io i d'' hs
              rw [hsig] at p2
              obtain rfl : a = b := by injection p2 with z; injection z with z; injection z
              exact p1
            | un => cases ho
            | fz d' => cases ho)
        rw [List.set_set] at L3
        refine P B' H' cr.exB L3 v ?_
        cases o with
        | false => exact rv
        | true =>
          obtain ⟨p, e, w, n0⟩ := rv
          refine ⟨p, e, w, .inr (L.free n0), fun ⟨j', s', e1, w1, q1⟩ => ?_⟩
          rcases get_set e1 with ⟨rfl, z, l⟩ | ⟨n, e1⟩
          · rw [hsig] at q1
            obtain rfl : a = p := by injection q1 with z; injection z with z; injection z
            exact w0.there n0
          · exact (L.hidOw ⟨j', s', e1, w1, q1⟩).2 n0
      | rz c =>
        simp only [q2] at P ⊢
        exact fun B' H' cr => P B' H' cr.exB (L1.callN cr hA hO)
      | fail => simp only [q2] at P; exact P.elim
theorem aoks_len {K : PySem.W.Frag} {B : Hp} {σ : St} : ∀ {vs : List V} {avs : List AV}, AOks K B σ vs avs → vs.length = avs.length
  | _, _, .nil => rfl
  | _, _, .v _ r => by rw [List.length_cons, List.length_cons, aoks_len r]
  | _, _, .s _ r => by rw [List.length_cons, List.length_cons, aoks_len r]
/-- f(e, ..) -/
def mCallN (n : Nat) (m : Option Nat) (g : List D → Rf) (f : M (List AV)) : M (D × Bool) := mCallF m g (M.bind f fun avs => M.opt (if avs.length = n then some avs else none))
theorem eo_call {x : Str} {k n : Nat} {f : Addr} {fd : FuncData} {ps : List Str} {m : Option Nat} {g : List D → Rf} {p : Pos} {fa : M (List AV)} (G : FnOk X.prog X.w X.K X.mg X.base (L2.CX X.prog X.w) k f fd ps (spF X.K X.mg n m g)) (hr : Room k X.A) (tk : Takes X W)
    (hm : X.mg x = some (.ref f)) (hk : PySem.W.keepIn X.K (.ref f) = true) (hb : Binds X.K fd ps []) (ha : EX X W (e :: es) fa) (hg : Gl X x := by rfl) (hdb : (x == ("__debug__" : Str)) = false := by decide)
    (he : starEach (e :: es) X.env = (false, eval e X.env) :: starEach es X.env := by rfl) (hpl : (backTo pos (starEach es X.env)).any (·.1) = false := by rfl) : EO X W (.Call (.Name x p) (e :: es) [] pos) (mCallN n m g fa) := by
  intro F ρ σ B H Q L P
  refine PE.we (pe_callS G hr hg hm hk hb (fun σ => passAt tk σ) pa_wa hdb he hpl) ?_
  have P0 := Post.bind P
  refine ha F ρ σ B H _ L ((Post.bind P0).imp fun avs ρ1 B1 H1 e1 L1 P1 vs fs => ?_)
  obtain ⟨avs', h1, h2⟩ := P1.opt
  split at h1
  · rename_i hl
    injection h1 with h1; subst h1
    exact call_sp L1 fs (by rw [aoks_len fs]; exact hl) (h2 B1 H1 (Ex.refl _) L1)
  · cases h1
end
end Dt
/-! Dt: builtins, owned lists, raise. -/
namespace Dt
open PySem PySem.Spec PyProof.Rows L2
section
variable {X : Cx} {W : WX} {e a b c : Expr} {pos : Pos} {K : PySem.W.Frag}

/-! ### builtins -/
def dAbs : List D → Option D
  | [.int i] => some (.int (if i < 0 then -i else i))
  | _ => none
theorem cd_abs : CallD K (fun xs H Q => ∃ i, xs = [.int i] ∧ Q (.int (if i < 0 then -i else i)) H) dAbs := by
  intro xs ds d B H Q ex fs h g
  unfold dAbs at h
  split at h
  · cases fs with
    | cons f fs => cases fs; cases f; injection h with h; subst h; exact ⟨_, rfl, g.1 _ (.int _)⟩
  · cases h
def dLen : List D → Option D
  | [.lst xs] => some (.int xs.length)
  | [.tup xs] => some (.int xs.length)
  | [.scr xs] => some (.int xs.length)
  | [.str x] => if tooLong x.length = true then none else some (.int x.length)
  | _ => none
theorem cd_len : CallD K (fun xs H Q => ∃ x n, xs = [x] ∧ LenV K x H n ∧ Q (.int n) H) dLen := by
  intro xs ds d B H Q ex fs h g
  unfold dLen at h
  split at h
  · cases fs with
    | cons f fs =>
      cases fs
      cases f with
      | @lst l xs ds hl fs =>
        injection h with h; subst h
        exact ⟨_, xs.length, rfl, .inl ⟨xs, .inl (.inl (ex _ _ hl)), rfl⟩, by rw [fs.len]; exact g.1 _ (.int _)⟩
  · cases fs with
    | cons f fs =>
      cases fs
      cases f with
      | @tup l xs ds hl fs =>
        injection h with h; subst h
        exact ⟨_, xs.length, rfl, .inr ⟨xs, ex.st hl, rfl⟩, by rw [fs.len]; exact g.1 _ (.int _)⟩
  · cases fs with
    | cons f fs =>
      cases fs
      cases f with
      | @scr l ns hl =>
        injection h with h; subst h
        exact ⟨_, (List.map V.int _).length, rfl, .inl ⟨_, ex.sl hl, rfl⟩, by rw [List.length_map]; exact g.1 _ (.int _)⟩
  · cases fs with
    | cons f fs =>
      cases fs
      cases f
      split at h
      · cases h
      · rename_i hz
        injection h with h; subst h
        exact ⟨_, _, rfl, ⟨notLong hz, rfl⟩, g.1 _ (.int _)⟩
  · cases h
def dMax2 : List D → Option D
  | [.int i, .int j] => some (.int (if j > i then j else i))
  | _ => none
theorem cd_max2 : CallD K (fun xs H Q => ∃ i j, xs = [.int i, .int j] ∧ Q (.int (if j > i then j else i)) H) dMax2 := by
  intro xs ds d B H Q ex fs h g
  unfold dMax2 at h
  split at h
  · cases fs with
    | cons f fs => cases fs with
      | cons f2 fs => cases fs; cases f; cases f2; injection h with h; subst h; exact ⟨_, _, rfl, g.1 _ (.int _)⟩
  · cases h
def dMin2 : List D → Option D
  | [.int i, .int j] => some (.int (if j < i then j else i))
  | _ => none
theorem cd_min2 : CallD K (fun xs H Q => ∃ i j, xs = [.int i, .int j] ∧ Q (.int (if j < i then j else i)) H) dMin2 := by
  intro xs ds d B H Q ex fs h g
  unfold dMin2 at h
  split at h
  · cases fs with
    | cons f fs => cases fs with
      | cons f2 fs => cases fs; cases f; cases f2; injection h with h; subst h; exact ⟨_, _, rfl, g.1 _ (.int _)⟩
  · cases h
variable {es : List Expr} {p : Pos} {fa : M (List D)} {f1 : M D}
theorem ev_abs (hm : X.mg "abs" = none) (ha : EA X W [a] fa) (hg : Gl X "abs" := by rfl) (he : starEach (a :: []) X.env = (false, eval a X.env) :: starEach [] X.env := by rfl) : EV X W (.Call (.Name "abs" p) [a] [] pos) (mCall dAbs fa) := ev_callB call_abs cd_abs hg hm (by decide +kernel) ha (by decide) (by decide) he
theorem ev_len (hm : X.mg "len" = none) (ha : EA X W [a] fa) (hg : Gl X "len" := by rfl) (he : starEach (a :: []) X.env = (false, eval a X.env) :: starEach [] X.env := by rfl) : EV X W (.Call (.Name "len" p) [a] [] pos) (mCall dLen fa) := ev_callB call_len cd_len hg hm PySem.boot_len ha (by decide) (by decide) he
theorem ev_max2 (hc : X.calm = true) (hm : X.mg "max" = none) (ha : EA X W [a, b] fa) (hg : Gl X "max" := by rfl) (he : starEach (a :: [b]) X.env = (false, eval a X.env) :: starEach [b] X.env := by rfl) (hpl : (backTo pos (starEach [b] X.env)).any (·.1) = false := by rfl) : EV X W (.Call (.Name "max" p) [a, b] [] pos) (mCall dMax2 fa) := ev_callB (call_max2 hc) cd_max2 hg hm (by decide +kernel) ha (by decide) (by decide) he hpl
theorem ev_min2 (hc : X.calm = true) (hm : X.mg "min" = none) (ha : EA X W [a, b] fa) (hg : Gl X "min" := by rfl) (he : starEach (a :: [b]) X.env = (false, eval a X.env) :: starEach [b] X.env := by rfl) (hpl : (backTo pos (starEach [b] X.env)).any (·.1) = false := by rfl) : EV X W (.Call (.Name "min" p) [a, b] [] pos) (mCall dMin2 fa) := ev_callB (call_min2 hc) cd_min2 hg hm (by decide +kernel) ha (by decide) (by decide) he hpl

/-! ### isinstance(x, T), T a built-in type -/
def tyD : D → String
  | .non => "NoneType"
  | .bl _ => "bool"
  | .int _ => "int"
  | .str _ => "str"
  | .lst _ => "list"
  | .tup _ => "tuple"
  | .scr _ => "list"
theorem Fz.ty {B H : Hp} {v : V} {d : D} (ex : Ex B H) (h : Fz K B v d) : TyX K H v (.type (tyD d)) := by
  cases h with
  | non => exact .base .non
  | bl b => exact .base (.bl b)
  | int i => exact .base (.int i)
  | str x => exact .base (.str x)
  | lst h _ => exact .base (.lst (ex _ _ h))
  | tup h _ =>
    rcases h with (h | ⟨o, h⟩) | ⟨o, its, n, h, hc, _⟩
    · exact .base (.tup (ex _ _ h))
    · exact .fTuple (ex _ _ h)
    · exact .kTuple h hc
  | scr h =>
    rcases h with (h | ⟨o, h⟩) | ⟨o, its, n, h, hc, _⟩
    · exact .base (.lst (ex _ _ h))
    · exact .base (.frz (ex _ _ h))
    · exact .kList h hc
def dIsi (T : String) (d : D) : Option D := (kitB (tyD d) T).map D.bl
def mIsi (T : String) (f : M D) : M D := M.bind f fun d => M.opt (dIsi T d)
theorem ev_isi {T : Str} {Tn : String} {p2 : Pos} (hm : X.mg "isinstance" = none) (hmT : X.mg T = none) (ha : EV X W a f1) (hvT : bootBuiltins T = some (.type Tn)) (hg : Gl X "isinstance" := by rfl) (hgT : Gl X T := by rfl) (hn : T ≠ "__name__" := by decide) (hd : (T == ("__debug__" : Str)) = false := by decide)
    (he : starEach (a :: [.Name T p2]) X.env = (false, eval a X.env) :: starEach [.Name T p2] X.env := by rfl) (he2 : starEach (.Name T p2 :: []) X.env = (false, eval (.Name T p2) X.env) :: starEach [] X.env := by rfl) (hpl : (backTo pos (starEach [.Name T p2] X.env)).any (·.1) = false := by rfl) : EV X W (.Call (.Name "isinstance" p) [a, .Name T p2] [] pos) (mIsi Tn f1) := by
  intro F ρ σ B H Q L P
  have pT : PE X (.Name T p2) (tC (.ty Tn)) := pe_bltn hgT hmT hvT rfl hn hd
  refine PE.we (pe_callB call_isi hg hm (by decide +kernel) (pa_cons pe_we (pa_cons pT pa_nil he2) he) (by decide) (by decide) he hpl) ?_
  refine ha F ρ σ B H _ L ((Post.bind P).imp fun d ρ1 B1 H1 e1 L1 P1 v fv => ?_)
  obtain ⟨z, hz, k⟩ := P1.opt
  unfold dIsi at hz
  cases q : kitB (tyD d) Tn with
  | none => rw [q] at hz; cases hz
  | some r =>
    rw [q] at hz
    injection hz with hz; subst hz
    exact ⟨v, .ty Tn, .type (tyD d), .type Tn, r, rfl, .ty Tn, fv.ty L1.ex, kit_ty q, k B1 H1 (Ex.refl _) L1 _ (.bl r)⟩

/-! ### owned lists -/
/-- the slot holds something -/
def chk (i : Nat) : M Unit := fun ρ => match ρ[i]? with
  | some (.ow _) => .ok () ρ
  | some (.io _) => .ok () ρ
  | some (.fz _) => .ok () ρ
  | _ => .fail
theorem Lv.chk {α : Type} {F : Fr} {ρ : Env} {σ : St} {B H : Hp} {i : Nat} (L : Lv K F ρ σ B H) (h : Dt.chk i ρ ≠ .fail) : Dt.chk i ρ = .ok () ρ ∧ ∃ v, σ[i]? = some (some v) := by
  unfold Dt.chk at h ⊢
  split at h
  · rename_i d q
    obtain ⟨a, e1, _⟩ := L.ow i _ q rfl
    exact ⟨by simp only [q], _, e1⟩
  · rename_i d q
    obtain ⟨a, e1, _⟩ := L.ow i _ q rfl
    exact ⟨by simp only [q], _, e1⟩
  · rename_i d q
    obtain ⟨v, e1, _⟩ := L.fz i _ q
    exact ⟨by simp only [q], _, e1⟩
  · exact absurd rfl h
/-- x[k] = e -/
def mPutAt (i : Nat) (fe fk : M D) : M Fl := M.bind fe fun d => M.bind (chk i) fun _ => M.bind fk fun k ρ => match ρ[i]?, k with
  | some (.ow (.lst ds)), .int z => match ixN ds.length z with
    | some j => .ok .nx (ρ.set i (.ow (.lst (ds.set j d))))
    | none => .fail
  | some (.io (.lst ds)), .int z => match ixN ds.length z with
    | some j => .ok .nx (ρ.set i (.io (.lst (ds.set j d))))
    | none => .fail
  | _, _ => .fail
theorem Lv.setAt {F : Fr} {ρ : Env} {σ : St} {B H : Hp} {i : Nat} {s : Slot} {ds ds' : List D} (L : Lv K F ρ σ B H) (e : ρ[i]? = some s) (ho : owned s = true) (hd : s.dat = .lst ds) :
    ∃ a vs, σ[i]? = some (some (V.ref a)) ∧ H a = some (.lst vs) ∧ Fzs K B vs ds ∧ ∀ vs' ds', Fzs K B vs' ds' → Lv K F (ρ.set i (reslot ρ[i]? (.lst ds'))) σ B (upd H a (.lst vs')) := by
  obtain ⟨a, e1, w, g⟩ := L.ow i s e ho
  rw [hd] at w
  obtain ⟨n, vs, h1, fs⟩ := w
  refine ⟨a, vs, e1, h1, fs, fun vs' ds' fs' => ?_⟩
  refine L.write e ho e1 ?_ ?_
  · rw [e]
    cases s with
    | ow d => exact .inl ⟨d, rfl, _, rfl⟩
    | io d => exact .inr ⟨d, rfl, _, rfl⟩
    | un => cases ho
    | fz d => cases ho
  · rw [e]
    cases s with
    | ow d => exact ⟨n, vs', upd_same, fs'⟩
    | io d => exact ⟨n, vs', upd_same, fs'⟩
    | un => cases ho
    | fz d => cases ho
theorem sv_putAt {i : Nat} {x : Str} {kx : Expr} {px pt : Pos} {fe fk : M D} (he : EV X W e fe) (hk : EV X W kx fk) (hN : X.N[i]? = some x := by rfl) (hv : Vis X.env.scope x := by first | exact Or.inl rfl | exact Or.inr (Or.inl rfl) | exact Or.inr (Or.inr rfl)) (hd : (x == ("__debug__" : Str)) = false := by decide)
    (hcd : (x == ("__classdict__" : Str)) = false := by decide)
    (ha : ∀ v, assign (.Subscript (.Name x px) kx pt) X.env v = (do
      let ov ← holding [v] (eval (.Name x px) X.env)
      let iv ← holding [v, ov] (eval kx X.env)
      standAt pt
      holding [v, ov, iv] (setItem ov iv v)
      release [v, ov, iv] []) := by intro _; rfl)
    (hs : swapsWithSole [.Subscript (.Name x px) kx pt] e pos.line X.env = pure false := by rfl) (hw : swappedStores [.Subscript (.Name x px) kx pt] e X.env = pure none := by rfl)
    (h1 : (assignEach [.Subscript (.Name x px) kx pt] X.env).map (·.2) = [assign (.Subscript (.Name x px) kx pt) X.env] := by rfl) : SV X W (.Assign [.Subscript (.Name x px) kx pt] e pos) (mPutAt i fe fk) := by
  intro F ρ σ B H N L P
  refine PS.ws (ps_asg pe_we (pg_sub (pe_var hN hv hd hcd) pe_we set_list ha) hs hw h1) ?_
  refine he F ρ σ B H _ L ((PostS.bind P).imp fun d ρ1 B1 H1 e1 L1 P1 v fv => ?_)
  have P1' : PostS X W F B1 ((M.bind (chk i) fun _ => M.bind fk fun k ρ => match ρ[i]?, k with
    | some (.ow (.lst ds)), .int z => match ixN ds.length z with
      | some j => .ok .nx (ρ.set i (.ow (.lst (ds.set j d))))
      | none => .fail
    | some (.io (.lst ds)), .int z => match ixN ds.length z with
      | some j => .ok .nx (ρ.set i (.io (.lst (ds.set j d))))
      | none => .fail
    | _, _ => Rs.fail) ρ1) N := P1
  have hne : chk i ρ1 ≠ .fail := fun z => by unfold M.bind at P1'; simp only [z] at P1'; exact P1'.elim
  obtain ⟨hck, vo0, ev0⟩ := L1.chk (α := Unit) hne
  unfold M.bind at P1'
  simp only [hck] at P1'
  have P2 := PostS.bind (σ := σ) P1'
  have go : ∀ (vo : V), σ[i]? = some (some vo) → tVar i σ H1 fun o H1' => we X kx σ H1' fun k H2 => rSetL o k v H2 fun H3 => N.nx σ H3 := by
    intro vo ev
    refine ⟨vo, ev, hk F ρ1 σ B1 H1 _ L1 (P2.imp fun k ρ2 B2 H2 e2 L2 P3 u fu => ?_)⟩
    cases q : ρ2[i]? with
    | none => simp only [q] at P3; exact P3.elim
    | some s =>
      have fin : ∀ {ds : List D} {z : Int} {j : Nat}, owned s = true → s.dat = .lst ds → k = .int z → ixN ds.length z = some j → PostS X W F B2 (.ok .nx (ρ2.set i (reslot ρ2[i]? (.lst (ds.set j d))))) N → rSetL vo u v H2 fun H3 => N.nx σ H3 := by
        intro ds z j ho hdat hk hj P4
        subst hk
        cases fu
        obtain ⟨a, vs, h1, h2, fs, st⟩ := L2.setAt (ds' := ds) q ho hdat
        rw [ev] at h1
        injection h1 with h1; injection h1 with h1; subst h1
        exact ⟨a, vs, z, j, rfl, rfl, h2, by rw [fs.len]; exact hj, P4 σ B2 _ (Ex.refl _) (st _ _ (fs.set j (fv.mono e2)))⟩
      cases s with
      | ow dd =>
        cases dd with
        | lst ds =>
          cases k with
          | int z =>
            simp only [q] at P3
            cases hj : ixN ds.length z with
            | none => simp only [hj] at P3; exact P3.elim
            | some j => simp only [hj] at P3; exact fin rfl rfl rfl hj (by rw [q]; exact P3)
          | _ => simp only [q] at P3; exact P3.elim
        | _ => simp only [q] at P3; exact P3.elim
      | io dd =>
        cases dd with
        | lst ds =>
          cases k with
          | int z =>
            simp only [q] at P3
            cases hj : ixN ds.length z with
            | none => simp only [hj] at P3; exact P3.elim
            | some j => simp only [hj] at P3; exact fin rfl rfl rfl hj (by rw [q]; exact P3)
          | _ => simp only [q] at P3; exact P3.elim
        | _ => simp only [q] at P3; exact P3.elim
      | un => simp only [q] at P3; exact P3.elim
      | fz _ => simp only [q] at P3; exact P3.elim
  exact go vo0 ev0
/-- what a slot holds, to be read -/
def contR : Option Slot → Option D
  | some (.ow d) => some d
  | some (.io d) => some d
  | some (.fz d) => some d
  | _ => none
theorem Lv.cont {F : Fr} {ρ : Env} {σ : St} {B H : Hp} {i : Nat} {d : D} {v : V} (L : Lv K F ρ σ B H) (h : contR ρ[i]? = some d) (ev : σ[i]? = some (some v)) : ∃ B2, Ex B B2 ∧ Ex B2 H ∧ Fz K B2 v d ∧ (∀ ds, d = .lst ds → ∃ a vs, v = .ref a ∧ H a = some (.lst vs) ∧ Fzs K B vs ds) := by
  have own : ∀ {s : Slot}, ρ[i]? = some s → owned s = true → s.dat = d → ∃ B2, Ex B B2 ∧ Ex B2 H ∧ Fz K B2 v d ∧ (∀ ds, d = .lst ds → ∃ a vs, v = .ref a ∧ H a = some (.lst vs) ∧ Fzs K B vs ds) := by
    intro s q ho hd
    obtain ⟨a, e1, w, g⟩ := L.ow i s q ho
    rw [ev] at e1; injection e1 with e1; injection e1 with e1; subst e1
    rw [hd] at w
    obtain ⟨o, h1, h2⟩ := w.fz
    refine ⟨_, Ex.new w.hid, fun b u q => ?_, h2, fun ds z => ?_⟩
    · by_cases hb : b = a
      · subst hb; rw [upd_same] at q; rw [h1]; exact q
      · rw [upd_ne hb] at q; exact L.ex b u q
    · subst z
      obtain ⟨_, vs, h3, fs⟩ := w
      exact ⟨a, vs, rfl, h3, fs⟩
  cases q : ρ[i]? with
  | none => rw [q] at h; cases h
  | some s =>
    rw [q] at h
    cases s with
    | un => cases h
    | ow d' => injection h with h; exact own q rfl h
    | io d' => injection h with h; exact own q rfl h
    | fz d' =>
      injection h with h; subst h
      obtain ⟨v', e1, f⟩ := L.fz i _ q
      rw [ev] at e1; injection e1 with e1; injection e1 with e1; subst e1
      refine ⟨B, Ex.refl _, L.ex, f, fun ds z => ?_⟩
      subst z
      cases f with
      | lst h1 fs => exact ⟨_, _, rfl, L.ex _ _ h1, fs⟩
/-- x[k], x a local: its container stays as it is -/
def dIxL : D → D → Option D
  | .lst ds, .int i => L2.atI ds i
  | _, _ => none
def mPeek (i : Nat) (fk : M D) : M D := M.bind (chk i) fun _ => M.bind fk fun k ρ => match (contR ρ[i]?).bind fun d => dIxL d k with
  | some z => .ok z ρ
  | none => .fail
theorem ev_peek {i : Nat} {x : Str} {kx : Expr} {px : Pos} {fk : M D} (hk : EV X W kx fk) (hN : X.N[i]? = some x := by rfl) (hv : Vis X.env.scope x := by first | exact Or.inl rfl | exact Or.inr (Or.inl rfl) | exact Or.inr (Or.inr rfl)) (hd : (x == ("__debug__" : Str)) = false := by decide)
    (hcd : (x == ("__classdict__" : Str)) = false := by decide) (hs : PlainIx kx := by exact fun _ _ => rfl) : EV X W (.Subscript (.Name x px) kx pos) (mPeek i fk) := by
  intro F ρ σ B H Q L P
  refine PE.we (pe_ix ix_list (pe_var hN hv hd hcd) pe_we hs) ?_
  have P0 : Post X W F σ B ((M.bind (chk i) fun _ => M.bind fk fun k ρ => match (contR ρ[i]?).bind fun d => dIxL d k with
    | some z => .ok z ρ
    | none => Rs.fail) ρ) (fun d _ B' H' => ∀ v, Fz X.K B' v d → Q v H') := P
  have hne : chk i ρ ≠ .fail := fun z => by unfold M.bind at P0; simp only [z] at P0; exact P0.elim
  obtain ⟨hck, vo, ev⟩ := L.chk (α := Unit) hne
  unfold M.bind at P0
  simp only [hck] at P0
  refine ⟨vo, ev, hk F ρ σ B H _ L ((Post.bind P0).imp fun k ρ2 B2 H2 e2 L2 P3 u fu => ?_)⟩
  cases q : contR ρ2[i]? with
  | none => simp only [q, Option.bind_none] at P3; exact P3.elim
  | some d =>
    simp only [q, Option.bind_some] at P3
    cases q2 : dIxL d k with
    | none => simp only [q2] at P3; exact P3.elim
    | some z =>
      simp only [q2] at P3
      obtain ⟨B3, _, _, _, hl⟩ := L2.cont q ev
      unfold dIxL at q2
      split at q2
      · obtain ⟨a, vs, rfl, h1, fs⟩ := hl _ rfl
        cases fu
        obtain ⟨v, h3, h4⟩ := fs.atI q2
        exact ⟨a, vs, _, v, rfl, rfl, .inl (.inl h1), h3, P3 B2 H2 (Ex.refl _) L2 v h4⟩
      · cases q2
/-- data without objects -/
def scalD : D → Bool
  | .non => true
  | .bl _ => true
  | .int _ => true
  | .str _ => true
  | _ => false
theorem Fz.scal {B B' : Hp} {v : V} {d : D} (h : Fz K B v d) (s : scalD d = true) : Fz K B' v d := by
  cases h with
  | non => exact .non
  | bl b => exact .bl b
  | int i => exact .int i
  | str x => exact .str x
  | lst _ _ => cases s
  | tup _ _ => cases s
  | scr _ => cases s
/-- an operation whose left operand is a local, read alone -/
def mBinL (g : D → D → Option D) (i : Nat) (f2 : M D) : M D := M.bind (chk i) fun _ => M.bind f2 fun y ρ => match (contR ρ[i]?).bind fun d => g d y with
  | some z => if scalD z = true then .ok z ρ else .fail
  | none => .fail
theorem ev_twoL {r : R2} {g : D → D → Option D} {i : Nat} {x : Str} {px : Pos} {f2 : M D} (h : PE X e (tOp r (tVar i) (we X b))) (hr : OpD X.K r g) (hb : EV X W b f2) : EV X W e (mBinL g i f2) := by
  intro F ρ σ B H Q L P
  refine PE.we h ?_
  have P0 : Post X W F σ B ((M.bind (chk i) fun _ => M.bind f2 fun y ρ => match (contR ρ[i]?).bind fun d => g d y with
    | some z => if scalD z = true then .ok z ρ else .fail
    | none => Rs.fail) ρ) (fun d _ B' H' => ∀ v, Fz X.K B' v d → Q v H') := P
  have hne : chk i ρ ≠ .fail := fun z => by unfold M.bind at P0; simp only [z] at P0; exact P0.elim
  obtain ⟨hck, vo, ev⟩ := L.chk (α := Unit) hne
  unfold M.bind at P0
  simp only [hck] at P0
  refine ⟨vo, ev, hb F ρ σ B H _ L ((Post.bind P0).imp fun k ρ2 B2 H2 e2 L2 P3 u fu => ?_)⟩
  cases q : contR ρ2[i]? with
  | none => simp only [q, Option.bind_none] at P3; exact P3.elim
  | some d =>
    simp only [q, Option.bind_some] at P3
    cases q2 : g d k with
    | none => simp only [q2] at P3; exact P3.elim
    | some z =>
      simp only [q2] at P3
      split at P3
      · rename_i hz
        obtain ⟨B3, e3, e4, f3, hl⟩ := L2.cont q ev
        refine hr vo u d k z B3 H2 Q e4 f3 (fu.mono e3) q2 ⟨fun v fv => P3 B2 H2 (Ex.refl _) L2 v (fv.scal hz), fun p o v hp fv => ?_⟩
        exact P3 _ _ (Ex.new (L2.ex.nn hp)) (L2.alloc hp) v (fv.scal hz)
      · exact P3.elim
theorem ev_cmpL {op : CmpOp} {r : R2} {g : D → D → Option D} {i : Nat} {x : Str} {px : Pos} {f2 : M D} (ho : OpR X (compareOp op) r) (hr : OpD X.K r g) (hb : EV X W b f2) (hN : X.N[i]? = some x := by rfl) (hv : Vis X.env.scope x := by first | exact Or.inl rfl | exact Or.inr (Or.inl rfl) | exact Or.inr (Or.inr rfl)) (hd : (x == ("__debug__" : Str)) = false := by decide)
    (hcd : (x == ("__classdict__" : Str)) = false := by decide) (hm : behindInMarks op b = false := by first | exact nomark _ | rfl) : EV X W (.Compare (.Name x px) [op] [b] pos) (mBinL g i f2) :=
  ev_twoL (x := x) (px := px) (pe_cmpR ho (pe_var hN hv hd hcd) pe_we hm) hr hb
/-- len(x), x a local -/
def mLenL (i : Nat) : M D := M.bind (chk i) fun _ ρ => match (contR ρ[i]?).bind fun d => dLen [d] with
  | some z => .ok z ρ
  | none => .fail
theorem dLen_scal {ds : List D} {d : D} (h : dLen ds = some d) : scalD d = true := by
  unfold dLen at h
  split at h
  · injection h with h; subst h; rfl
  · injection h with h; subst h; rfl
  · injection h with h; subst h; rfl
  · split at h
    · cases h
    · injection h with h; subst h; rfl
  · cases h
theorem ev_lenL {i : Nat} {x : Str} {px : Pos} (hm : X.mg "len" = none) (hN : X.N[i]? = some x := by rfl) (hv : Vis X.env.scope x := by first | exact Or.inl rfl | exact Or.inr (Or.inl rfl) | exact Or.inr (Or.inr rfl)) (hd : (x == ("__debug__" : Str)) = false := by decide)
    (hcd : (x == ("__classdict__" : Str)) = false := by decide) (hg : Gl X "len" := by rfl) (he : starEach (.Name x px :: []) X.env = (false, eval (.Name x px) X.env) :: starEach [] X.env := by rfl) : EV X W (.Call (.Name "len" p) [.Name x px] [] pos) (mLenL i) := by
  intro F ρ σ B H Q L P
  refine PE.we (pe_callB call_len hg hm PySem.boot_len (pa_cons (pe_var hN hv hd hcd) pa_nil he) (by decide) (by decide) he rfl) ?_
  have P0 : Post X W F σ B ((M.bind (chk i) fun _ ρ => match (contR ρ[i]?).bind fun d => dLen [d] with
    | some z => .ok z ρ
    | none => Rs.fail) ρ) (fun d _ B' H' => ∀ v, Fz X.K B' v d → Q v H') := P
  have hne : chk i ρ ≠ .fail := fun z => by unfold M.bind at P0; simp only [z] at P0; exact P0.elim
  obtain ⟨hck, vo, ev⟩ := L.chk (α := Unit) hne
  unfold M.bind at P0
  simp only [hck] at P0
  refine ⟨vo, ev, ?_⟩
  cases q : contR ρ[i]? with
  | none => simp only [q, Option.bind_none] at P0; exact P0.elim
  | some d =>
    simp only [q, Option.bind_some] at P0
    cases q2 : dLen [d] with
    | none => simp only [q2] at P0; exact P0.elim
    | some z =>
      simp only [q2] at P0
      obtain ⟨B3, e3, e4, f3, hl⟩ := L.cont q ev
      exact cd_len [vo] [d] z B3 H Q e4 (.cons f3 .nil) q2 ⟨fun v fv => P0 B H (Ex.refl _) L v (fv.scal (dLen_scal q2)), fun p o v hp fv => P0 _ _ (Ex.new (L.ex.nn hp)) (L.alloc hp) v (fv.scal (dLen_scal q2))⟩
/-- x.append(e), x an owned local -/
def mApp (i : Nat) (fe : M D) : M Fl := M.bind (chk i) fun _ => M.bind fe fun d ρ => match ρ[i]? with
  | some (.ow (.lst ds)) => if ds.length < 10000 then .ok .nx (ρ.set i (.ow (.lst (ds ++ [d])))) else .fail
  | some (.io (.lst ds)) => if ds.length < 10000 then .ok .nx (ρ.set i (.io (.lst (ds ++ [d])))) else .fail
  | _ => .fail
theorem lt_line {n : Nat} (h : n < 10000) : n < sizeLine := Nat.lt_of_lt_of_le h (by decide)
theorem lv_lst {F : Fr} {ρ : Env} {σ : St} {B H : Hp} {i : Nat} {v : V} (L : Lv K F ρ σ B H) (ev : σ[i]? = some (some v)) {s : Slot} {ds : List D} (q : ρ[i]? = some s) (ho : owned s = true) (hd : s.dat = .lst ds) : ∃ a vs, v = .ref a ∧ H a = some (.lst vs) ∧ Fzs K B vs ds := by
  obtain ⟨a, e1, w, g⟩ := L.ow i s q ho
  rw [ev] at e1; injection e1 with e1; injection e1 with e1; subst e1
  rw [hd] at w
  obtain ⟨_, vs, h1, fs⟩ := w
  exact ⟨a, vs, rfl, h1, fs⟩
end
end Dt
namespace Dt
open PySem PySem.Spec PyProof.Rows L2
/-! ### exceptions of the text, raised -/
abbrev veTail : List Value := [.type "ValueError", .type "Exception", .type "BaseException", .type "object"]
def ExC (K : PySem.W.Frag) (mg : Str → Option Value) (x : Str) : Prop := ∃ C, mg x = some (.ref C) ∧ PySem.W.excIn K C veTail "ValueError.__new__" = true ∧ PySem.W.keepIn K (.ref C) = true ∧
  PySem.W.subIn K (.ref C) (.type "BaseException") = some true ∧ PySem.W.typeIn K (.ref C) = some (.type "type")
theorem sv_raise {X : Cx} {W : WX} {x m : Str} {j : Nat} {p p2 p3 pos : Pos} (hc : X.calm = true) (tk : Takes X W) (T : ExC X.K X.mg x) (hg : Gl X x := by rfl) (hdb : (x == ("__debug__" : Str)) = false := by decide) :
    SV X W (.Raise (some (.Call (.Name x p) [.Constant (.str m) j p2] [] p3)) none pos) (M.raise x) := by
  obtain ⟨C, gC, xC, kC, bC, tC⟩ := T
  intro F ρ σ B H N L P
  refine PS.ws (ps_raise hc tk (pmk_own PySem.F.excBase_ValueError xC gC kC (raises_own bC tC) hg hdb)) ?_
  have h := P σ B H (Ex.refl _) L
  unfold cv at h
  rw [gC] at h
  exact h

/-! ### defs of the text -/
def FnIn (K : PySem.W.Frag) (mg : Str → Option Value) (x : Str) (st : Stmt) : Prop := ∃ f fd, Fun K x x st f fd ∧ mg x = some (.ref f)
/-- the def at x keeps the meaning g -/
def Ok (P : Program) (w : World) (K : PySem.W.Frag) (mg : Str → Option Value) (base : Heap) (x : Str) (k n : Nat) (m : Option Nat) (g : List D → Rf) : Prop :=
  ∃ f fd ps, mg x = some (.ref f) ∧ PySem.W.keepIn K (.ref f) = true ∧ Binds K fd ps [] ∧ FnOk P w K mg base (L2.CX P w) k f fd ps (spF K mg n m g)
theorem ok_mk {P : Program} {w : World} {K : PySem.W.Frag} {mg : Str → Option Value} {base : Heap} {x : Str} {st : Stmt} {N ps : List Str} {k : Nat} {m : Option Nat} {fb : M Fl} (T : FnIn K mg x st) (S : FnScope N ps (defScope st)) (hps : ps.length ≤ N.length)
    (hb : ∀ (kV doc pm : Value) (an : Option Addr) (cdv ct : Value) (us : List Value), us.length = ps.length → bindArgs (PySem.W.fnOf x x (defArgs st) (defBody st) (defScope st) .none kV doc pm an cdv ct) ⟨us, []⟩ = pure (ps.zip us))
    (hbody : ∀ (f : Addr) (cdv : Value) (A : Around) (outer : List PySem.Env) (s : Shared) (H : Hp) (E : XK), Room k (A.deeper (envOfC x (defScope st) s.heap.objs.size f cdv)) →
      Takes (cxOf (L2.CX P w) P w K mg base N x (defScope st) f cdv A outer s H E) (fun cls d _ H => E cls d H) →
      PassesOwn (model P w) (A.deeper (envOfC x (defScope st) s.heap.objs.size f cdv)) (envOfC x (defScope st) s.heap.objs.size f cdv) (cxOf (L2.CX P w) P w K mg base N x (defScope st) f cdv A outer s H E).xe →
      SVs (cxOf (L2.CX P w) P w K mg base N x (defScope st) f cdv A outer s H E) (fun cls d _ H => E cls d H) (defBody st) fb) : Ok P w K mg base x (k + 1) ps.length m (runF m N.length fb) := by
  obtain ⟨f, fd, F, hm⟩ := T
  exact ⟨f, fd, ps, hm, F.kp, F.binds hb, fn_def F S hps fun cdv A outer s H E hr => hbody f cdv A outer s H E hr (takes_of rfl rfl rfl rfl) (passes_of rfl)⟩
theorem ok_at {P : Program} {w : World} {K : PySem.W.Frag} {mg : Str → Option Value} {base : Heap} {x : Str} {st : Stmt} {N ps : List Str} {k : Nat} {m : Option Nat} {fb : M Fl} {f : Addr} {fd : FuncData} (F : Fun K x x st f fd) (S : FnScope N ps (defScope st)) (hps : ps.length ≤ N.length)
    (hbody : ∀ (f : Addr) (cdv : Value) (A : Around) (outer : List PySem.Env) (s : Shared) (H : Hp) (E : XK), Room k (A.deeper (envOfC x (defScope st) s.heap.objs.size f cdv)) →
      Takes (cxOf (L2.CX P w) P w K mg base N x (defScope st) f cdv A outer s H E) (fun cls d _ H => E cls d H) →
      PassesOwn (model P w) (A.deeper (envOfC x (defScope st) s.heap.objs.size f cdv)) (envOfC x (defScope st) s.heap.objs.size f cdv) (cxOf (L2.CX P w) P w K mg base N x (defScope st) f cdv A outer s H E).xe →
      SVs (cxOf (L2.CX P w) P w K mg base N x (defScope st) f cdv A outer s H E) (fun cls d _ H => E cls d H) (defBody st) fb) : FnOk P w K mg base (L2.CX P w) (k + 1) f fd ps (spF K mg ps.length m (runF m N.length fb)) :=
  fn_def F S hps fun cdv A outer s H E hr => hbody f cdv A outer s H E hr (takes_of rfl rfl rfl rfl) (passes_of rfl)
theorem eo_fn {X : Cx} {W : WX} {x : Str} {k j n : Nat} {m : Option Nat} {g : List D → Rf} {e : Expr} {es : List Expr} {p pos : Pos} {fa : M (List AV)} (G : Ok X.prog X.w X.K X.mg X.base x k n m g) (hr : Room j X.A) (tk : Takes X W) (ha : EX X W (e :: es) fa) (hk : k ≤ j := by decide) (hg : Gl X x := by rfl) (hdb : (x == ("__debug__" : Str)) = false := by decide)
    (he : starEach (e :: es) X.env = (false, eval e X.env) :: starEach es X.env := by rfl) (hpl : (backTo pos (starEach es X.env)).any (·.1) = false := by rfl) : EO X W (.Call (.Name x p) (e :: es) [] pos) (mCallN n m g fa) := by
  obtain ⟨f, fd, ps, hm, kp, hb, G⟩ := G
  exact eo_call G (hr.mono hk) tk hm kp hb ha hg hdb he hpl
/-- what the law promises -/
def spL (K : PySem.W.Frag) (n : Nat) : Sp := fun vs H Q _ => ∃ (a : Addr) (ns : List Int), vs = [.ref a] ∧ SqL K H a (ns.map V.int) ∧ ns.length ≤ n ∧ (∀ z ∈ ns, Builtin.Int.intBits z ≤ 1048576) ∧ ∀ H', Q (.bl true) H'
theorem law_of {P : Program} {w : World} {K : PySem.W.Frag} {mg : Str → Option Value} {base : Heap} {k n : Nat} {f : Addr} {fd : FuncData} {ps : List Str} {g : List D → Rf} (G : FnOk P w K mg base (L2.CX P w) k f fd ps (spF K mg 1 none g))
    (h : ∀ ns : List Int, ns.length ≤ n → (∀ z ∈ ns, Builtin.Int.intBits z ≤ 1048576) → g [.scr ns] = .ok (.bl true) false .non) : FnOk P w K mg base (L2.CX P w) k f fd ps (spL K n) := by
  refine G.imp fun vs H Q E q => ?_
  obtain ⟨a, ns, rfl, hS, hl, hb, q⟩ := q
  refine ⟨H, [.scr ns], 0, Ex.refl _, .fz (.scr hS) .nil, rfl, ?_⟩
  rw [h ns hl hb]
  intro v B' H' _ _ rv
  cases rv
  exact q H'
end Dt
/-! Dt: list comprehensions. -/
namespace Dt
open PySem PySem.Spec PyProof.Rows L2

def wipeE (ρ : Env) : List Nat → Env
  | [] => ρ
  | v :: vs => (wipeE ρ vs).set v .un
theorem wipeE_len (ρ : Env) : ∀ vs : List Nat, (wipeE ρ vs).length = ρ.length
  | [] => rfl
  | v :: vs => by unfold wipeE; rw [List.length_set, wipeE_len ρ vs]
section
variable {K : PySem.W.Frag} {F : Fr} {ρ ρ' : Env} {σ σ' : St} {B H B' H' : Hp}
/-- slots forgotten on both sides -/
theorem Lv.wipe (L : Lv K F ρ σ B H) : ∀ vs : List Nat, Lv K F (wipeE ρ vs) (L2.wipe σ vs) B H
  | [] => L
  | v :: vs => by
    have L1 := Lv.wipe L vs
    unfold wipeE L2.wipe
    generalize wipeE ρ vs = r at *
    generalize L2.wipe σ vs = s at *
    have sg : ∀ {j : Nat}, j ≠ v → (s.set v none)[j]? = s[j]? := fun {j} h => List.getElem?_set_ne (Ne.symm h)
    refine ⟨L1.ex, L1.kept, L1.there, L1.exB, L1.hid, fun j d e1 => ?_, fun j t e1 w1 => ?_, fun j d e1 => ?_, fun j k t u b e1 w1 e2 w2 q1 q2 => ?_, by rw [List.length_set, List.length_set]; exact L1.len⟩
    · rcases get_set e1 with ⟨rfl, z, l⟩ | ⟨n, e1⟩
      · cases z
      · rw [sg n]; exact L1.fz j d e1
    · rcases get_set e1 with ⟨rfl, z, l⟩ | ⟨n, e1⟩
      · rw [z] at w1; cases w1
      · rw [sg n]; exact L1.ow j t e1 w1
    · rcases get_set e1 with ⟨rfl, z, l⟩ | ⟨n, e1⟩
      · cases z
      · rw [sg n]; exact L1.io j d e1
    · rcases get_set e1 with ⟨rfl, z, l⟩ | ⟨n, e1⟩
      · rw [z] at w1; cases w1
      · rcases get_set e2 with ⟨rfl, z, l⟩ | ⟨n2, e2⟩
        · rw [z] at w2; cases w2
        · rw [sg n] at q1; rw [sg n2] at q2
          exact L1.ne j k t u b e1 w1 e2 w2 q1 q2
theorem wipeE_get {ρ : Env} {j : Nat} {s : Slot} : ∀ {vs : List Nat}, (wipeE ρ vs)[j]? = some s → s = .un ∨ (j ∉ vs ∧ ρ[j]? = some s)
  | [], e => .inr ⟨by simp, e⟩
  | v :: vs, e => by
    rcases get_set e with ⟨rfl, z, l⟩ | ⟨n, e⟩
    · exact .inl z
    · rcases wipeE_get e with z | ⟨h, z⟩
      · exact .inl z
      · exact .inr ⟨fun q => (List.mem_cons.mp q).elim n h, z⟩
/-- the block's names have gone -/
theorem Lv.unwipe {vs : List Nat} (L : Lv K F ρ (L2.wipe σ vs) B H) : Lv K F (wipeE ρ vs) σ B H := by
  have sg : ∀ {j : Nat}, j ∉ vs → (L2.wipe σ vs)[j]? = σ[j]? := fun {j} h => wipe_out h
  have own : ∀ {j : Nat} {s : Slot}, (wipeE ρ vs)[j]? = some s → owned s = true → j ∉ vs ∧ ρ[j]? = some s := fun {j s} e w => by
    rcases wipeE_get e with z | h
    · rw [z] at w; cases w
    · exact h
  refine ⟨L.ex, L.kept, L.there, L.exB, L.hid, fun j d e1 => ?_, fun j t e1 w1 => ?_, fun j d e1 => ?_, fun j k t u b e1 w1 e2 w2 q1 q2 => ?_, by rw [wipeE_len, L.len, wipe_length]⟩
  · rcases wipeE_get e1 with z | ⟨h, e1⟩
    · cases z
    · rw [← sg h]; exact L.fz j d e1
  · obtain ⟨h, e1⟩ := own e1 w1
    rw [← sg h]; exact L.ow j t e1 w1
  · obtain ⟨h, e1⟩ := own e1 rfl
    rw [← sg h]; exact L.io j d e1
  · obtain ⟨h1, e1⟩ := own e1 w1
    obtain ⟨h2, e2⟩ := own e2 w2
    rw [← sg h1] at q1; rw [← sg h2] at q2
    exact L.ne j k t u b e1 w1 e2 w2 q1 q2
/-- what is hidden and no slot's is changed -/
theorem Lv.hidW (L : Lv K F ρ σ B H) {p : Addr} {o : HO} (hB : B p = none) (hF : F.H0 p = none) (no : ¬ OwS ρ σ p) : Lv K F ρ σ B (upd H p o) := by
  refine ⟨L.ex.right hB, fun a u e n => ?_, fun a e => upd_some (L.there a e), L.exB, L.hid, L.fz, fun i s e w => ?_, L.io, L.ne, L.len⟩
  · have na : a ≠ p := fun z => by subst z; rw [hF] at e; cases e
    rw [upd_ne na]; exact L.kept a u e n
  · obtain ⟨a, e1, f, g⟩ := L.ow i s e w
    have nap : a ≠ p := fun z => no ⟨i, s, e, w, z ▸ e1⟩
    exact ⟨a, e1, f.keep (Ex.refl _) f.hid (fun u q => by rw [upd_ne nap]; exact q), g⟩
end

/-! ### the block's parts, for every block -/
section
variable {X : Cx} {W : WX}
def wts (X : Cx) (ifs : List Expr) : TT := fun σ H Q => ∀ (pins : List (Addr × Obj)) (s : Shared), Inv X pins σ H s →
  wpAny (model X.prog X.w) X.A (forIn ifs true fun c r => if r = true then do let ok ← isTrue c X.env (eval c X.env); pure (ForInStep.yield ok) else pure (ForInStep.yield r)) (TP X pins σ Q) X.xe s
theorem pts_wts {ifs : List Expr} : PTs X ifs (wts X ifs) := ⟨fun pins s _ _ _ I h => h pins s I⟩
theorem PTs.wts {ifs : List Expr} {t : TT} {σ : St} {H : Hp} {Q : Bool → Hp → Prop} (h : PTs X ifs t) (q : t σ H Q) : wts X ifs σ H Q := fun pins s I => h.run pins s σ H Q I q
def ETs (X : Cx) (W : WX) (ifs : List Expr) (f : M Bool) : Prop := ∀ (F : Fr) (ρ : Env) (σ : St) (B H : Hp) (Q : Bool → Hp → Prop), Lv X.K F ρ σ B H →
  Post X W F σ B (f ρ) (fun b _ _ H' => Q b H') → wts X ifs σ H Q
theorem ets_nil : ETs X W [] (M.pure true) := fun F ρ σ B H Q L P => PTs.wts pts_nil (P B H (Ex.refl _) L)
theorem ets_one {c : Expr} {f : M Bool} (h : ET X W c f) : ETs X W [c] f := fun F ρ σ B H Q L P => PTs.wts (pts_one pt_wt) (h F ρ σ B H Q L P)
end
abbrev W0 : WX := fun _ _ _ _ => False
/-- what raises is no outcome -/
def mNoR {α : Type} (f : M α) : M α := fun ρ => match f ρ with
  | .ok a ρ' => .ok a ρ'
  | _ => .fail
def mLcL (own : List Nat) (g : D → Env → Option Env) (t : M Bool) (e : M D) : List D → List D → M (List D)
  | [], acc => M.pure acc
  | d :: r, acc => fun ρ => match g d ρ with
    | none => .fail
    | some ρ1 => M.bind (mNoR t) (fun k => match k with
      | false => fun ρ2 => mLcL own g t e r acc (wipeE ρ2 own)
      | true => M.bind (mNoR e) fun y ρ2 => if acc.length < 10000 then mLcL own g t e r (acc ++ [y]) (wipeE ρ2 own) else .fail) ρ1
def mLc (own : List Nat) (f : M (List D)) (g : D → Env → Option Env) (t : M Bool) (e : M D) : M (D × Bool) := M.bind f fun ds ρ => match mLcL own g t e ds [] (wipeE ρ own) with
  | .ok acc ρ2 => .ok (.lst acc, true) (wipeE ρ2 own)
  | _ => .fail
theorem wipe_onl {is vs : List Nat} {σ σ' : St} (h : Onl is (L2.wipe σ vs) σ') (hs : ∀ i ∈ is, i ∈ vs) : L2.wipe σ' vs = L2.wipe σ vs := by
  apply List.ext_getElem?
  intro j
  by_cases hj : j ∈ vs
  · have e : ∀ (τ : St) (ws : List Nat), j ∈ ws → (L2.wipe τ ws)[j]? = if j < τ.length then some none else none := by
      intro τ ws
      induction ws with
      | nil => intro z; cases z
      | cons w ws ih =>
        intro z
        unfold L2.wipe
        by_cases hw : w = j
        · subst hw
          by_cases l : w < τ.length
          · rw [List.getElem?_set_self (by rw [wipe_length]; exact l), if_pos l]
          · rw [List.getElem?_eq_none (by rw [List.length_set, wipe_length]; omega), if_neg l]
        · rw [List.getElem?_set_ne hw]
          exact ih ((List.mem_cons.mp z).resolve_left (fun q => hw q.symm))
    rw [e σ' vs hj, e σ vs hj, h.1, wipe_length]
  · rw [wipe_out hj, h.2 j (fun z => hj (hs j z))]
theorem Post.noR {α : Type} {X : Cx} {F : Fr} {σ : St} {B : Hp} {f : M α} {ρ : Env} {G : α → Env → Hp → Hp → Prop} {W : WX} (h : Post X W F σ B (mNoR f ρ) G) : Post X W0 F σ B (f ρ) G := by
  unfold mNoR at h
  cases q : f ρ with
  | ok a ρ' => rw [q] at h; exact h
  | rz c ρ' => rw [q] at h; exact h.elim
  | fail => rw [q] at h; exact h
def gB (X : Cx) (scope : Scope) (tg : Expr) : TG := fun v σ H Q => ∀ (s : Shared) (H0 : Hp) (C : Addr) (cl : List (Str × Addr)) (fp : List Addr), wg (X.blk s H0 scope (compEnvC scope cl C X.env) fp) tg v σ H Q
def tsB (X : Cx) (scope : Scope) (ifs : List Expr) : TT := fun σ H Q => ∀ (s : Shared) (H0 : Hp) (C : Addr) (cl : List (Str × Addr)) (fp : List Addr), wts (X.blk s H0 scope (compEnvC scope cl C X.env) fp) ifs σ H Q
def eB (X : Cx) (scope : Scope) (elt : Expr) : TE := fun σ H Q => ∀ (s : Shared) (H0 : Hp) (C : Addr) (cl : List (Str × Addr)) (fp : List Addr), we (X.blk s H0 scope (compEnvC scope cl C X.env) fp) elt σ H Q
section
variable {X : Cx} {W : WX} {elt tg iter : Expr} {ifs : List Expr} {scope : Scope} {own : List (Str × Nat)} {pos : Pos} {is : List Nat} {f : M (List D)} {g : D → Env → Option Env} {t : M Bool} {e : M D}
theorem lc_read (hi : IV X W tg iter f)
    (hg : ∀ (s : Shared) (H : Hp) (C : Addr) (cl : List (Str × Addr)) (fp : List Addr), GV (X.blk s H scope (compEnvC scope cl C X.env) fp) tg is g)
    (ht : ∀ (s : Shared) (H : Hp) (C : Addr) (cl : List (Str × Addr)) (fp : List Addr), ETs (X.blk s H scope (compEnvC scope cl C X.env) fp) W0 ifs t)
    (he : ∀ (s : Shared) (H : Hp) (C : Addr) (cl : List (Str × Addr)) (fp : List Addr), EV (X.blk s H scope (compEnvC scope cl C X.env) fp) W0 elt e)
    (his : ∀ i ∈ is, i ∈ own.map (·.2)) {F : Fr} {ρ : Env} {σ : St} {B H : Hp} {Q : VK} (L : Lv X.K F ρ σ B H)
    (P : Post X W F σ B (mLc (own.map (·.2)) f g t e ρ) (fun p ρ' B' H' => ∀ v, VO X.K F ρ' σ B' H' v p.1 p.2 → Q v H')) : tLc (wi X tg iter) (gB X scope tg) (tsB X scope ifs) (eB X scope elt) (own.map (·.2)) σ H Q := by
  generalize hvs : own.map (·.2) = vs at *
  refine hi F ρ σ B H _ L ((Post.bind P).imp fun ds ρ1 B1 H1 e1 L1 P1 J hJ Dl hD => ?_)
  have Lw : Lv X.K F (wipeE ρ1 vs) (L2.wipe σ vs) B1 H1 := L1.wipe vs
  -- what is wanted of the block's outcome
  let PC : Rs (List D) → Prop := fun r => match r with
    | .ok acc ρ2 => ∀ B' H', Ex B1 B' → Lv X.K F (wipeE ρ2 vs) σ B' H' → ∀ v, VO X.K F (wipeE ρ2 vs) σ B' H' v (.lst acc) true → Q v H'
    | _ => False
  have PC0 : PC (mLcL vs g t e ds [] (wipeE ρ1 vs)) := by
    have P2 : Post X W F σ B1 ((match mLcL vs g t e ds [] (wipeE ρ1 vs) with
      | .ok acc ρ2 => .ok (.lst acc, true) (wipeE ρ2 vs)
      | _ => .fail) : Rs (D × Bool)) _ := P1
    cases q : mLcL vs g t e ds [] (wipeE ρ1 vs) with
    | ok acc ρ2 => rw [q] at P2; exact fun B' H' e' L' v w => P2 B' H' e' L' v w
    | rz c ρ2 => rw [q] at P2; exact P2.elim
    | fail => rw [q] at P2; exact P2.elim
  have nD0 : ¬ OwS (wipeE ρ1 vs) (L2.wipe σ vs) Dl := fun z => (Lw.hidOw z).2 hD
  refine ⟨fun i m H' => m = ds.length - i ∧ i ≤ ds.length ∧ ∃ ρ' B' acc xs, Lv X.K ⟨B1, H1, OwS (wipeE ρ1 vs) (L2.wipe σ vs), F.P⟩ ρ' (L2.wipe σ vs) B' H' ∧ H' Dl = some (.lst xs) ∧ B' Dl = none ∧ Fzs X.K B' xs acc ∧ ¬ OwS ρ' (L2.wipe σ vs) Dl ∧ PC (mLcL vs g t e (ds.drop i) acc ρ'),
    ⟨ds.length, by simp, Nat.zero_le _, wipeE ρ1 vs, B1, [], [], Lw.nest.allocO hD, upd_same, L1.ex.nn hD, .nil, nD0, PC0⟩, ?_⟩
  rintro i m H2 ⟨rfl, hi2, ρ2, B2, acc, xs, M2, hl, hb, fs, no, P2⟩
  by_cases hlt : i < ds.length
  · refine .inr ⟨hJ.go B2 H2 i M2.exB M2.ex hlt, fun H' => ∃ ρ' B' acc xs, Lv X.K ⟨B1, H1, OwS (wipeE ρ1 vs) (L2.wipe σ vs), F.P⟩ ρ' (L2.wipe σ vs) B' H' ∧ H' Dl = some (.lst xs) ∧ B' Dl = none ∧ Fzs X.K B' xs acc ∧ ¬ OwS ρ' (L2.wipe σ vs) Dl ∧ PC (mLcL vs g t e (ds.drop (i + 1)) acc ρ'), fun H' q => ⟨ds.length - (i + 1), by omega, rfl, hlt, q⟩, fun x H3 hy => ?_⟩
    rw [List.drop_eq_getElem_cons hlt] at P2
    have hd : ds[i]? = some ds[i] := List.getElem?_eq_getElem hlt
    generalize ds[i] = d at *
    generalize ds.drop (i + 1) = r at *
    have fin : ∀ (B3 : Hp), Ex B2 B3 → Lv X.K ⟨B1, H1, OwS (wipeE ρ1 vs) (L2.wipe σ vs), F.P⟩ ρ2 (L2.wipe σ vs) B3 H3 → H3 Dl = some (.lst xs) → B3 Dl = none → Fz X.K B3 x d →
        gB X scope tg x (L2.wipe σ vs) H3 fun σ2 H2 => L2.wipe σ2 vs = L2.wipe σ vs ∧ tsB X scope ifs σ2 H2 fun b H3 => if b = true then eB X scope elt σ2 H3 fun y H4 => ∃ acc, H4 Dl = some (.lst acc) ∧ acc.length < sizeLine ∧ (∃ ρ' B' acc' xs', Lv X.K ⟨B1, H1, OwS (wipeE ρ1 vs) (L2.wipe σ vs), F.P⟩ ρ' (L2.wipe σ vs) B' (upd H4 Dl (.lst (acc ++ [y]))) ∧ (upd H4 Dl (.lst (acc ++ [y]))) Dl = some (.lst xs') ∧ B' Dl = none ∧ Fzs X.K B' xs' acc' ∧ ¬ OwS ρ' (L2.wipe σ vs) Dl ∧ PC (mLcL vs g t e r acc' ρ')) else ∃ ρ' B' acc xs, Lv X.K ⟨B1, H1, OwS (wipeE ρ1 vs) (L2.wipe σ vs), F.P⟩ ρ' (L2.wipe σ vs) B' H3 ∧ H3 Dl = some (.lst xs) ∧ B' Dl = none ∧ Fzs X.K B' xs acc ∧ ¬ OwS ρ' (L2.wipe σ vs) Dl ∧ PC (mLcL vs g t e r acc ρ') := by
      intro B3 e3 M3 hl3 hb3 fx s0 H0 C0 cl0 fp0
      have N3 := M3.nest
      refine hg s0 H0 C0 cl0 fp0 _ ρ2 _ B3 H3 x d _ N3 fx ?_
      have P3 : PC (match g d ρ2 with
        | none => .fail
        | some ρ1 => M.bind (mNoR t) (fun k => match k with
          | false => fun ρ2 => mLcL vs g t e r acc (wipeE ρ2 vs)
          | true => M.bind (mNoR e) fun y ρ2 => if acc.length < 10000 then mLcL vs g t e r (acc ++ [y]) (wipeE ρ2 vs) else .fail) ρ1) := P2
      cases q : g d ρ2 with
      | none => rw [q] at P3; exact P3.elim
      | some ρ3 =>
        rw [q] at P3
        intro σ4 B4 H4 on4 e4 N4
        have hw : L2.wipe σ4 vs = L2.wipe σ vs := by rw [wipe_onl (is := is) on4 his]
        -- behind the element: wiped, back in the frame
        have back : ∀ {ρ5 : Env} {B5 H5 : Hp}, Lv X.K ⟨B3, H3, OwS ρ2 (L2.wipe σ vs), F.P⟩ ρ5 σ4 B5 H5 → Lv X.K ⟨B1, H1, OwS (wipeE ρ1 vs) (L2.wipe σ vs), F.P⟩ (wipeE ρ5 vs) (L2.wipe σ vs) B5 H5 ∧ H5 Dl = some (.lst xs) ∧ B5 Dl = none ∧ ¬ OwS (wipeE ρ5 vs) (L2.wipe σ vs) Dl := by
          intro ρ5 B5 H5 N5
          have M5 := M3.back N5
          have M6 := M5.wipe vs
          rw [hw] at M6
          refine ⟨M6, N5.kept Dl _ hl3 no, N5.hid Dl hb3 (by show H3 Dl ≠ none; rw [hl3]; simp) no, fun ⟨j, s, e1, w1, q1⟩ => ?_⟩
          rcases wipeE_get e1 with z | ⟨hj, e1⟩
          · rw [z] at w1; cases w1
          · obtain ⟨a, qa, _, ga⟩ := N5.ow j s e1 w1
            rw [← hw, wipe_out hj] at q1
            rw [q1] at qa
            obtain rfl : Dl = a := by injection qa with z; injection z with z; injection z
            rcases ga with ga | ga
            · exact no ga
            · have : H3 Dl = none := ga
              rw [hl3] at this; cases this
        have PP : Post X W0 ⟨B3, H3, OwS ρ2 (L2.wipe σ vs), F.P⟩ σ4 B4 (t ρ3) (fun k ρ5 B5 H5 => Ex B4 B5 ∧ PC ((match k with
          | false => fun ρ2 => mLcL vs g t e r acc (wipeE ρ2 vs)
          | true => M.bind (mNoR e) fun y ρ2 => if acc.length < 10000 then mLcL vs g t e r (acc ++ [y]) (wipeE ρ2 vs) else .fail) ρ5)) := by
          have P4 : PC (M.bind (mNoR t) _ ρ3) := P3
          unfold M.bind mNoR at P4
          cases q2 : t ρ3 with
          | ok k ρ5 => rw [q2] at P4; exact fun B' H' e' _ => ⟨e', P4⟩
          | rz c ρ5 => rw [q2] at P4; exact P4.elim
          | fail => rw [q2] at P4; exact P4.elim
        refine ⟨hw, fun s1 H01 C1 cl1 fp1 => ht s1 H01 C1 cl1 fp1 _ ρ3 σ4 B4 H4 _ N4 (PP.imp fun k ρ5 B5 H5 e5 N5 ⟨_, P5⟩ => ?_)⟩
        cases k with
        | false =>
          rw [if_neg Bool.false_ne_true]
          obtain ⟨M6, h6, b6, n6⟩ := back N5
          exact ⟨wipeE ρ5 vs, B5, acc, xs, M6, h6, b6, fs.mono (((e3.trans e4).trans e5)), n6, P5⟩
        | true =>
          rw [if_pos rfl]
          have PE5 : Post X W0 ⟨B3, H3, OwS ρ2 (L2.wipe σ vs), F.P⟩ σ4 B5 (e ρ5) (fun y ρ6 B6 H6 => acc.length < 10000 ∧ PC (mLcL vs g t e r (acc ++ [y]) (wipeE ρ6 vs))) := by
            have P6 : PC (M.bind (mNoR e) (fun y ρ2 => if acc.length < 10000 then mLcL vs g t e r (acc ++ [y]) (wipeE ρ2 vs) else .fail) ρ5) := P5
            unfold M.bind mNoR at P6
            cases q2 : e ρ5 with
            | ok y ρ6 =>
              rw [q2] at P6
              intro B' H' e' _
              have P7 : PC (if acc.length < 10000 then mLcL vs g t e r (acc ++ [y]) (wipeE ρ6 vs) else .fail) := P6
              split at P7
              · rename_i hh; exact ⟨hh, P7⟩
              · exact P7.elim
            | rz c ρ6 => rw [q2] at P6; exact P6.elim
            | fail => rw [q2] at P6; exact P6.elim
          intro s2 H02 C2 cl2 fp2
          refine he s2 H02 C2 cl2 fp2 _ ρ5 σ4 B5 H5 _ N5 (PE5.imp fun y ρ6 B6 H6 e6 N6 ⟨hz, P7⟩ v fv => ?_)
          obtain ⟨M6, h6, b6, n6⟩ := back N6
          have fs6 := fs.mono (((e3.trans e4).trans e5).trans e6)
          refine ⟨xs, h6, lt_line (by rw [fs.len]; exact hz), wipeE ρ6 vs, B6, acc ++ [y], xs ++ [v], M6.hidW b6 hD n6, upd_same, b6, fs6.append (.cons fv .nil), n6, P7⟩
    rcases hJ.yld B2 H2 i x H3 _ M2.exB M2.ex hy hd with ⟨rfl, fx⟩ | ⟨p, o, hp2, rfl, fx⟩
    · exact fin B2 (Ex.refl _) M2 hl hb fx
    · have np : Dl ≠ p := fun z => by subst z; rw [hl] at hp2; cases hp2
      exact fin _ (Ex.new (M2.ex.nn hp2)) (M2.alloc hp2) (by rw [upd_ne np]; exact hl) (by rw [upd_ne np]; exact hb) fx
  · have ei : i = ds.length := by omega
    subst ei
    rw [List.drop_length] at P2
    refine .inl ⟨hJ.stop B2 H2 _ M2.exB M2.ex (Nat.le_refl _), ?_⟩
    have M3 := Lw.back M2
    have M4 := M3.unwipe
    refine P2 B2 H2 M2.exB M4 _ ⟨Dl, rfl, ⟨hb, xs, hl, fs⟩, .inr (L1.free hD), fun ⟨j, s, e1, w1, q1⟩ => ?_⟩
    rcases wipeE_get e1 with z | ⟨hj, e1⟩
    · rw [z] at w1; cases w1
    · rw [← wipe_out hj] at q1
      exact no ⟨j, s, e1, w1, q1⟩
/-- [e for x in xs if t] -/
theorem eo_lc (hc : X.calm = true) (hN : X.N.Nodup) (hi : IV X W tg iter f) (ok : BlkOk X.N X.env.scope scope own)
    (hg : ∀ (s : Shared) (H : Hp) (C : Addr) (cl : List (Str × Addr)) (fp : List Addr), GV (X.blk s H scope (compEnvC scope cl C X.env) fp) tg is g)
    (ht : ∀ (s : Shared) (H : Hp) (C : Addr) (cl : List (Str × Addr)) (fp : List Addr), ETs (X.blk s H scope (compEnvC scope cl C X.env) fp) W0 ifs t)
    (he : ∀ (s : Shared) (H : Hp) (C : Addr) (cl : List (Str × Addr)) (fp : List Addr), EV (X.blk s H scope (compEnvC scope cl C X.env) fp) W0 elt e)
    (his : ∀ i ∈ is, i ∈ own.map (·.2) := by decide) (hs : ∀ x, foldedSetIterable iter X.env x = pure x := by intro _; rfl) : EO X W (.ListComp elt [⟨tg, iter, ifs, 0⟩] scope pos) (mLc (own.map (·.2)) f g t e) := by
  intro F ρ σ B H Q L P
  exact PE.we (pe_lc (g := gB X scope tg) (tt := tsB X scope ifs) (te := eB X scope elt) hc hN pi_wi ok (fun s H0 C cl fp => ⟨fun pins s' σ H v u Q I r h => h s H0 C cl fp pins s' u I r⟩) (fun s H0 C cl fp => ⟨fun pins s' σ H Q I h => h s H0 C cl fp pins s' I⟩) (fun s H0 C cl fp => ⟨fun pins s' σ H Q I h => h s H0 C cl fp pins s' I⟩) hs) (lc_read hi hg ht he his L P)
/-- y = [e for x in xs if t], y a local that no block reads -/
theorem sv_setLc {i : Nat} {y : Str} {py spos : Pos} (hc : X.calm = true) (hN : X.N.Nodup) (hi : IV X W tg iter f) (ok : BlkOk X.N X.env.scope scope own)
    (hg : ∀ (s : Shared) (H : Hp) (C : Addr) (cl : List (Str × Addr)) (fp : List Addr), GV (X.blk s H scope (compEnvC scope cl C X.env) fp) tg is g)
    (ht : ∀ (s : Shared) (H : Hp) (C : Addr) (cl : List (Str × Addr)) (fp : List Addr), ETs (X.blk s H scope (compEnvC scope cl C X.env) fp) W0 ifs t)
    (he : ∀ (s : Shared) (H : Hp) (C : Addr) (cl : List (Str × Addr)) (fp : List Addr), EV (X.blk s H scope (compEnvC scope cl C X.env) fp) W0 elt e)
    (hsw : swapsWith (.ListComp elt [⟨tg, iter, ifs, 0⟩] scope pos) (some (.Name y py)) spos.line X.env = pure true)
    (hy : X.N[i]? = some y := by rfl) (hyl : X.env.scope.names.lookup y = some .local := by rfl)
    (his : ∀ i ∈ is, i ∈ own.map (·.2) := by decide) (hs : ∀ x, foldedSetIterable iter X.env x = pure x := by intro _; rfl) : SV X W (.Assign [.Name y py] (.ListComp elt [⟨tg, iter, ifs, 0⟩] scope pos) spos) (mSet i (mLc (own.map (·.2)) f g t e)) := by
  intro F ρ σ B H N L P
  refine PS.ws (ps_setLc (g := gB X scope tg) (tt := tsB X scope ifs) (te := eB X scope elt) hc hN hy hyl hsw pi_wi ok (fun s H0 C cl fp => ⟨fun pins s' σ H v u Q I r h => h s H0 C cl fp pins s' u I r⟩) (fun s H0 C cl fp => ⟨fun pins s' σ H Q I h => h s H0 C cl fp pins s' I⟩) (fun s H0 C cl fp => ⟨fun pins s' σ H Q I h => h s H0 C cl fp pins s' I⟩) hs) ?_
  exact lc_read hi hg ht he his L ((PostS.bind P).imp fun p ρ1 B1 H1 e1 L1 P1 v w => P1 _ B1 H1 (Ex.refl _) (L1.put w))
end
end Dt
/-! Dt: more of the language: constants, chains, slices, zip, enumerate, lists' methods, sums. -/
namespace Dt
open PySem PySem.Spec PyProof.Rows L2
section
variable {X : Cx} {W : WX} {e a b c : Expr} {pos : Pos} {K : PySem.W.Frag}
/-! ### constants of the module -/
def CnIn (K : PySem.W.Frag) (mg : Str → Option Value) (x : Str) (d : D) : Prop := ∃ u v, mg x = some u ∧ RelV v u ∧ ∀ B, Fz K B v d
theorem ev_const {x : Str} {d : D} (T : CnIn X.K X.mg x d) (hg : Gl X x := by rfl) (hd : (x == ("__debug__" : Str)) = false := by decide) : EV X W (.Name x pos) (M.pure d) := by
  obtain ⟨u, v, hm, r, hf⟩ := T
  exact ev_glob hg hm r hf hd
theorem cn_int {mg : Str → Option Value} {x : Str} {i : Int} {t : Tok} (h : mg x = some (.int i t)) : CnIn K mg x (.int i) := ⟨_, .int i, h, ⟨t, rfl⟩, fun _ => .int i⟩
theorem cn_str {mg : Str → Option Value} {x s : Str} {t : Tok} (h : mg x = some (.str s t)) : CnIn K mg x (.str s) := ⟨_, .str s, h, ⟨t, rfl⟩, fun _ => .str s⟩
/-- flat things of the module -/
inductive Flats : List Value → List D → Prop
  | nil : Flats [] []
  | int {i : Int} {t : Tok} {us : List Value} {ds : List D} : Flats us ds → Flats (.int i t :: us) (.int i :: ds)
  | str {x : Str} {t : Tok} {us : List Value} {ds : List D} : Flats us ds → Flats (.str x t :: us) (.str x :: ds)
theorem Flats.go {K : PySem.W.Frag} : ∀ {us : List Value} {ds : List D}, Flats us ds → ∃ vs, Vals vs us ∧ ∀ B, Fzs K B vs ds
  | _, _, .nil => ⟨[], .nil, fun _ => .nil⟩
  | _, _, .int (i := i) (t := t) r => by
    obtain ⟨vs, h1, h2⟩ := Flats.go (K := K) r
    exact ⟨.int i :: vs, .cons ⟨t, rfl⟩ h1, fun B => .cons (.int i) (h2 B)⟩
  | _, _, .str (x := x) (t := t) r => by
    obtain ⟨vs, h1, h2⟩ := Flats.go (K := K) r
    exact ⟨.str x :: vs, .cons ⟨t, rfl⟩ h1, fun B => .cons (.str x) (h2 B)⟩
theorem cn_tup {mg : Str → Option Value} {x : Str} {p : Addr} {od : Option Addr} {us : List Value} {n : Nat} {sl : Array (Option Value)} {ds : List D} (h : mg x = some (.ref p)) (l : K.lookup p = some ⟨.type "tuple", od, .seq us.toArray n, sl⟩) (hz : us.length ≤ 1000) (fl : Flats us ds) : CnIn K mg x (.tup ds) := by
  obtain ⟨vs, h1, h2⟩ := Flats.go (K := K) fl
  exact ⟨_, .ref p, h, rfl, fun B => .tup (.inr ⟨_, us.toArray, n, l, rfl, rfl, by rw [List.size_toArray]; exact Nat.le_trans hz (by decide), by simpa using h1⟩) (h2 B)⟩

/-! ### chains -/
theorem ev_chain {op op' : CmpOp} {r r' : R2} {g g' : D → D → Option D} {f1 f2 f3 : M D} (ho : OpR X (compareOp op) r) (hr : OpD X.K r g) (ho' : OpR X (compareOp op') r') (hr' : OpD X.K r' g') (ha : EV X W a f1) (hb : EV X W b f2) (hc : EV X W c f3)
    (hm : lastMarks [op, op'] [b, c] = false := by with_unfolding_all rfl) : EV X W (.Compare a [op, op'] [b, c] pos) (mChain g g' f1 f2 f3) := by
  intro F ρ σ B H Q L P
  refine PE.we (pe_chain ho ho' pe_we pe_we pe_we hm) ?_
  refine ha F ρ σ B H _ L ((Post.bind P).imp fun dx ρ1 B1 H1 e1 L1 P1 x fx => ?_)
  refine hb F ρ1 σ B1 H1 _ L1 ((Post.bind P1).imp fun dy ρ2 B2 H2 e2 L2 P2 y fy => ?_)
  obtain ⟨z, hz, k⟩ := (Post.bind P2).opt
  refine hr x y dx dy z B2 H2 _ L2.ex (fx.mono e2) fy hz (L2.grow fun B' H' e' L' v fv => ?_)
  have P3 := k B' H' e' L'
  split at P3
  · cases fv
    refine ⟨true, rfl, ?_⟩
    rw [if_pos rfl]
    refine hc F ρ2 σ B' H' _ L' ((Post.bind P3).imp fun dw ρ3 B3 H3 e3 L3 P4 w fw => ?_)
    obtain ⟨d, hd, k2⟩ := P4.opt
    exact hr' y w dy dw d B3 H3 Q L3.ex ((fy.mono e').mono e3) fw hd (L3.grow k2)
  · cases fv
    refine ⟨false, rfl, ?_⟩
    rw [if_neg Bool.false_ne_true]
    exact P3 B' H' (Ex.refl _) L' _ (.bl false)
  · exact P3.elim
theorem et_chain {op op' : CmpOp} {r r' : R2} {g g' : D → D → Option D} {f1 f2 f3 : M D} (ho : OpR X (compareOp op) r) (hr : OpD X.K r g) (ho' : OpR X (compareOp op') r') (hr' : OpD X.K r' g') (ha : EV X W a f1) (hb : EV X W b f2) (hc : EV X W c f3)
    (hm : lastMarks [op, op'] [b, c] = false := by with_unfolding_all rfl) : ET X W (.Compare a [op, op'] [b, c] pos) (mTest (mChain g g' f1 f2 f3)) := by
  intro F ρ σ B H Q L P
  refine PT.wt (pt_chain ho ho' pe_we pe_we pe_we hm) ?_
  have P0 := Post.bind P
  refine ha F ρ σ B H _ L ((Post.bind P0).imp fun dx ρ1 B1 H1 e1 L1 P1 x fx => ?_)
  refine hb F ρ1 σ B1 H1 _ L1 ((Post.bind P1).imp fun dy ρ2 B2 H2 e2 L2 P2 y fy => ?_)
  obtain ⟨z, hz, k⟩ := (Post.bind P2).opt
  refine hr x y dx dy z B2 H2 _ L2.ex (fx.mono e2) fy hz (L2.grow fun B' H' e' L' v fv => ?_)
  have P3 := k B' H' e' L'
  split at P3
  · cases fv
    refine ⟨true, rfl, ?_⟩
    rw [if_pos rfl]
    refine hc F ρ2 σ B' H' _ L' ((Post.bind P3).imp fun dw ρ3 B3 H3 e3 L3 P4 w fw => ?_)
    obtain ⟨d, hd, k2⟩ := P4.opt
    refine hr' y w dy dw d B3 H3 _ L3.ex ((fy.mono e').mono e3) fw hd (L3.grow fun B4 H4 e4 L4 v4 f4 => ?_)
    obtain ⟨kk, hk, q⟩ := (k2 B4 H4 e4 L4).opt
    exact ⟨kk, f4.bl_inv hk, q B4 H4 (Ex.refl _) L4⟩
  · cases fv
    refine ⟨false, rfl, ?_⟩
    rw [if_neg Bool.false_ne_true]
    obtain ⟨kk, hk, q⟩ := (P3 B' H' (Ex.refl _) L').opt
    injection hk with hk; subst hk
    exact ⟨false, rfl, q B' H' (Ex.refl _) L'⟩
  · exact P3.elim
/-- a comparison whose value is known by ev, as a test -/
theorem et_cmpV {op : CmpOp} {f : M D} {r : R2} {ta tb : TE} (he : EV X W (.Compare a [op] [b] pos) f) (hw : ∀ whole, isTrue (.Compare a [op] [b] pos) X.env whole = (do let v ← whole; standAt (Expr.pos (.Compare a [op] [b] pos)); holding [v] (truthy v)) := by intro _; rfl) : ET X W (.Compare a [op] [b] pos) (mTest f) := et_val he hw
/-- .. whose left side is a local, as a test -/
theorem et_cmpL {op : CmpOp} {r : R2} {g : D → D → Option D} {i : Nat} {x : Str} {px : Pos} {f2 : M D} (ho : OpR X (compareOp op) r) (hr : OpD X.K r g) (hb : EV X W b f2) (hN : X.N[i]? = some x := by rfl) (hv : Vis X.env.scope x := by first | exact Or.inl rfl | exact Or.inr (Or.inl rfl) | exact Or.inr (Or.inr rfl)) (hd : (x == ("__debug__" : Str)) = false := by decide)
    (hcd : (x == ("__classdict__" : Str)) = false := by decide) (hm : behindInMarks op b = false := by first | exact nomark _ | rfl) : ET X W (.Compare (.Name x px) [op] [b] pos) (mTest (mBinL g i f2)) := by
  intro F ρ σ B H Q L P
  refine PT.wt (pt_cmpR ho (pe_var hN hv hd hcd) pe_we hm) ?_
  have P0 := Post.bind P
  have P0' : Post X W F σ B ((M.bind (chk i) fun _ => M.bind f2 fun y ρ => match (contR ρ[i]?).bind fun d => g d y with
    | some z => if scalD z = true then .ok z ρ else .fail
    | none => Rs.fail) ρ) _ := P0
  have hne : chk i ρ ≠ .fail := fun z => by unfold M.bind at P0'; simp only [z] at P0'; exact P0'.elim
  obtain ⟨hck, vo, ev⟩ := L.chk (α := Unit) hne
  unfold M.bind at P0'
  simp only [hck] at P0'
  refine ⟨vo, ev, hb F ρ σ B H _ L ((Post.bind P0').imp fun k ρ2 B2 H2 e2 L2 P3 u fu => ?_)⟩
  cases q : contR ρ2[i]? with
  | none => simp only [q, Option.bind_none] at P3; exact P3.elim
  | some d =>
    simp only [q, Option.bind_some] at P3
    cases q2 : g d k with
    | none => simp only [q2] at P3; exact P3.elim
    | some z =>
      simp only [q2] at P3
      split at P3
      · rename_i hz
        obtain ⟨B3, e3, e4, f3, hl⟩ := L2.cont q ev
        refine hr vo u d k z B3 H2 _ e4 f3 (fu.mono e3) q2 ⟨fun v fv => ?_, fun p o v hp fv => ?_⟩
        · obtain ⟨kk, hk, qq⟩ := (P3 B2 H2 (Ex.refl _) L2).opt
          exact ⟨kk, fv.bl_inv hk, qq B2 H2 (Ex.refl _) L2⟩
        · obtain ⟨kk, hk, qq⟩ := (P3 _ _ (Ex.new (L2.ex.nn hp)) (L2.alloc hp)).opt
          exact ⟨kk, fv.bl_inv hk, qq _ _ (Ex.refl _) (L2.alloc hp)⟩
      · exact P3.elim

/-! ### slices -/
def cutD (xs : List D) (lo hi : Option Int) : List D := (xs.drop (HT.sIx xs.length 0 lo)).take (HT.sIx xs.length xs.length hi - HT.sIx xs.length 0 lo)
theorem Fzs.cut {B : Hp} {vs : List V} {ds : List D} (h : Fzs K B vs ds) (lo hi : Option Int) : Fzs K B (cutV vs lo hi) (cutD ds lo hi) := by
  unfold cutV cutD
  rw [h.len]
  exact (h.drop _).take _
def asOI : Option D → Option (Option Int)
  | none => some none
  | some (.int i) => some (some i)
  | some _ => none
def mPart (f : Option (M D)) : M (Option Int) := match f with
  | none => M.pure none
  | some f => M.bind f fun d => M.opt (match d with
    | .int i => some (some i)
    | _ => none)
def wo (X : Cx) (e : Option Expr) (t : TO) : Prop := PO X e t
/-- the ends of a slice -/
def EP' (X : Cx) (W : WX) (e : Option Expr) (f : M (Option Int)) : Prop := ∃ t, PO X e t ∧ ∀ (F : Fr) (ρ : Env) (σ : St) (B H : Hp) (Q : Option Int → Hp → Prop), Lv X.K F ρ σ B H → Post X W F σ B (f ρ) (fun o _ _ H' => Q o H') → t σ H Q
theorem ep_none : EP' X W none (mPart none) := ⟨_, po_none, fun F ρ σ B H Q L P => P B H (Ex.refl _) L⟩
theorem ep_some {f : M D} (h : EV X W e f) : EP' X W (some e) (mPart (some f)) := ⟨_, po_some pe_we, fun F ρ σ B H Q L P => by
  refine h F ρ σ B H _ L ((Post.bind P).imp fun d ρ1 B1 H1 e1 L1 P1 v fv => ?_)
  obtain ⟨o, ho, k⟩ := P1.opt
  split at ho
  · cases fv
    injection ho with ho; subst ho
    exact ⟨_, rfl, k B1 H1 (Ex.refl _) L1⟩
  · cases ho⟩
def dSl (d : D) (lo hi : Option Int) : Option (D × Bool) := match d with
  | .lst xs => some (.lst (cutD xs lo hi), true)
  | .tup xs => some (.tup (cutD xs lo hi), false)
  | _ => none
def mSl (f : M D) (fl fh : M (Option Int)) : M (D × Bool) := M.bind f fun d => M.bind fl fun lo => M.bind fh fun hi => M.opt (dSl d lo hi)
theorem cut_all {xs : List D} {lo hi : Option Int} (h : HT.sIx xs.length 0 lo = 0 ∧ HT.sIx xs.length xs.length hi = xs.length) : cutD xs lo hi = xs := by
  unfold cutD
  rw [h.1, h.2, List.drop_zero, Nat.sub_zero, List.take_length]
theorem eo_slice {lo hi : Option Expr} {p2 : Pos} {f : M D} {fl fh : M (Option Int)} (he : EV X W e f) (hl : EP' X W lo fl) (hh : EP' X W hi fh) : EO X W (.Subscript e (.Slice lo hi none p2) pos) (mSl f fl fh) := by
  obtain ⟨tl, pl, hl⟩ := hl
  obtain ⟨th, ph, hh⟩ := hh
  intro F ρ σ B H Q L P
  refine PE.we (pe_slice (sl_list.or sl_tupA) pe_we pl ph) ?_
  refine he F ρ σ B H _ L ((Post.bind P).imp fun d ρ1 B1 H1 e1 L1 P1 v fv => ?_)
  refine hl F ρ1 σ B1 H1 _ L1 ((Post.bind P1).imp fun l ρ2 B2 H2 e2 L2 P2 => ?_)
  refine hh F ρ2 σ B2 H2 _ L2 ((Post.bind P2).imp fun u ρ3 B3 H3 e3 L3 P3 => ?_)
  obtain ⟨p, hp, k⟩ := P3.opt
  have fv3 := (fv.mono e2).mono e3
  cases fv3 with
  | @lst a xs ds h fs =>
    injection hp with hp; subst hp
    refine .inl ⟨a, xs, rfl, .inl (.inl (L3.ex _ _ h)), fun q hq => ?_⟩
    obtain ⟨L4, v4⟩ := L3.newL hq (fs.cut l u)
    exact k B3 _ (Ex.refl _) L4 _ v4
  | @tup a xs ds h fs =>
    injection hp with hp; subst hp
    refine .inr ⟨a, xs, rfl, L3.ex.st h, fun hw => ?_, fun _ q hq => ?_⟩
    · have e : cutD ds l u = ds := cut_all (by rw [← fs.len]; exact hw)
      rw [e] at k
      exact k B3 H3 (Ex.refl _) L3 _ (show Fz X.K B3 (.ref a) (.tup ds) from .tup h fs)
    · exact k _ _ (Ex.new (L3.ex.nn hq)) (L3.alloc hq) _ (show Fz X.K _ (.ref q) _ from .tup (.inl (.inl upd_same)) ((fs.cut l u).mono (Ex.new (L3.ex.nn hq))))
  | _ => cases hp
/-- xs[::-1] -/
def mRevL (f : M D) : M (D × Bool) := M.bind f fun d => M.opt (match d with
  | .lst xs => some (.lst xs.reverse, true)
  | _ => none)
theorem eo_revL {f : M D} {k : Nat} {p1 p2 p3 : Pos} (he : EV X W e f) : EO X W (.Subscript e (.Slice none none (some (.UnaryOp .USub (.Constant (.int 1) k p1) p2)) p3) pos) (mRevL f) := by
  intro F ρ σ B H Q L P
  refine PE.we (pe_revL pe_we) ?_
  refine he F ρ σ B H _ L ((Post.bind P).imp fun d ρ1 B1 H1 e1 L1 P1 v fv => ?_)
  obtain ⟨p, hp, kk⟩ := P1.opt
  cases fv with
  | @lst a xs ds h fs =>
    injection hp with hp; subst hp
    refine ⟨a, xs, rfl, .inl (.inl (L1.ex _ _ h)), fun q hq => ?_⟩
    obtain ⟨L4, v4⟩ := L1.newL hq fs.reverse
    exact kk B1 _ (Ex.refl _) L4 _ v4
  | _ => cases hp

/-! ### zip, enumerate -/
variable {tg : Expr}
def mZip (f : M (List D)) : M (List D) := M.bind f fun ds => M.opt (match ds with
  | [.lst xs, .lst ys] => some (List.zipWith (fun x y => D.tup [x, y]) xs ys)
  | _ => none)
theorem it_zip {p q : Addr} {xs ys : List V} {B : Hp} {ds es : List D} (h1 : B p = some (.lst xs)) (f1 : Fzs K B xs ds) (h2 : B q = some (.lst ys)) (f2 : Fzs K B ys es) : ItOk K (Itz K p q) B (List.zipWith (fun x y => D.tup [x, y]) ds es) where
  go := fun B' H' i e1 e2 hi => by
    rw [List.length_zipWith] at hi
    have hi1 : i < xs.length := by rw [f1.len]; omega
    have hi2 : i < ys.length := by rw [f2.len]; omega
    exact ⟨xs, ys, xs[i], ys[i], .inl (.inl (e2 _ _ (e1 _ _ h1))), .inl (.inl (e2 _ _ (e1 _ _ h2))), List.getElem?_eq_getElem hi1, List.getElem?_eq_getElem hi2⟩
  stop := fun B' H' i e1 e2 hi => by
    rw [List.length_zipWith] at hi
    refine ⟨xs, ys, .inl (.inl (e2 _ _ (e1 _ _ h1))), .inl (.inl (e2 _ _ (e1 _ _ h2))), ?_⟩
    rw [f1.len, f2.len]; omega
  yld := fun B' H' i x H3 d e1 e2 y hd => by
    obtain ⟨T, u, v, rfl, hT, rfl, hu, hv⟩ := y
    have h3 := hu xs (.inl (.inl (e2 _ _ (e1 _ _ h1))))
    have h4 := hv ys (.inl (.inl (e2 _ _ (e1 _ _ h2))))
    obtain ⟨d1, hd1, g1⟩ := f1.getV h3
    obtain ⟨d2, hd2, g2⟩ := f2.getV h4
    rw [List.getElem?_zipWith, hd1, hd2] at hd
    injection hd with hd; subst hd
    refine .inr ⟨T, _, hT, rfl, .tup (.inl (.inl upd_same)) ?_⟩
    have en : Ex B' (upd B' T (.tup [u, v])) := Ex.new (e2.nn hT)
    exact .cons ((g1.mono e1).mono en) (.cons ((g2.mono e1).mono en) .nil)
theorem iv_zip {e e2 : Expr} {p tpos : Pos} {elts : List Expr} {kk : Nat} {f : M (List D)} (hm : X.mg "zip" = none) (ha : EA X W [e, e2] f) (hg : Gl X "zip" := by rfl)
    (hs : starEach [e, e2] X.env = (false, eval e X.env) :: starEach [e2] X.env := by rfl) (hpl : (backTo pos (starEach [e2] X.env)).any (·.1) = false := by rfl) : IV X W (.Tuple elts kk tpos) (.Call (.Name "zip" p) [e, e2] [] pos) (mZip f) := by
  intro F ρ σ B H R L P
  refine PI.wi (pi_zip hg hm pa_wa hs hpl) ?_
  refine ha F ρ σ B H _ L ((Post.bind P).imp fun ds ρ1 B1 H1 e1 L1 P1 vs fs => ?_)
  obtain ⟨zs, hd, k⟩ := P1.opt
  split at hd
  · injection hd with hd; subst hd
    cases fs with
    | cons f1 fs => cases fs with
      | cons f2 fs =>
        cases fs
        cases f1 with
        | lst h1 g1 => cases f2 with
          | lst h2 g2 => exact ⟨_, _, _, _, rfl, .inl (.inl (L1.ex _ _ h1)), .inl (.inl (L1.ex _ _ h2)), k B1 H1 (Ex.refl _) L1 _ (it_zip h1 g1 h2 g2)⟩
  · cases hd
def enumD (k : Nat) : List D → List D
  | [] => []
  | d :: r => .tup [.int (k : Nat), d] :: enumD (k + 1) r
theorem enumD_len : ∀ (k : Nat) (ds : List D), (enumD k ds).length = ds.length
  | _, [] => rfl
  | k, d :: r => by show (enumD (k + 1) r).length + 1 = _; rw [enumD_len]; rfl
theorem enumD_get : ∀ (k : Nat) (ds : List D) (i : Nat), (enumD k ds)[i]? = (ds[i]?).map fun d => D.tup [.int ((k + i : Nat) : Int), d]
  | _, [], i => by simp [enumD]
  | k, d :: r, 0 => by simp [enumD]
  | k, d :: r, i + 1 => by
    show (enumD (k + 1) r)[i]? = _
    rw [enumD_get (k + 1) r i]
    show _ = (r[i]?).map _
    rw [show k + 1 + i = k + (i + 1) by omega]
def mEnum (f : M (List D)) : M (List D) := M.bind f fun ds => M.opt (match ds with
  | [.lst xs] => some (enumD 0 xs)
  | _ => none)
theorem it_enum {p : Addr} {xs : List V} {B : Hp} {ds : List D} (h1 : B p = some (.lst xs)) (f1 : Fzs K B xs ds) : ItOk K (Ite K p) B (enumD 0 ds) where
  go := fun B' H' i e1 e2 hi => by
    rw [enumD_len] at hi
    have hi1 : i < xs.length := by rw [f1.len]; omega
    exact ⟨xs, xs[i], .inl (.inl (e2 _ _ (e1 _ _ h1))), List.getElem?_eq_getElem hi1⟩
  stop := fun B' H' i e1 e2 hi => by
    rw [enumD_len] at hi
    exact ⟨xs, .inl (.inl (e2 _ _ (e1 _ _ h1))), by rw [f1.len]; omega⟩
  yld := fun B' H' i x H3 d e1 e2 y hd => by
    obtain ⟨T, u, rfl, hT, rfl, hu⟩ := y
    have h3 := hu xs (.inl (.inl (e2 _ _ (e1 _ _ h1))))
    obtain ⟨d1, hd1, g1⟩ := f1.getV h3
    rw [enumD_get, hd1] at hd
    injection hd with hd; subst hd
    refine .inr ⟨T, _, hT, rfl, .tup (.inl (.inl upd_same)) ?_⟩
    have en : Ex B' (upd B' T (.tup [.int (i : Nat), u])) := Ex.new (e2.nn hT)
    rw [Nat.zero_add]
    exact .cons (.int _) (.cons ((g1.mono e1).mono en) .nil)
theorem iv_enum {e : Expr} {p tpos : Pos} {elts : List Expr} {kk : Nat} {f : M (List D)} (hm : X.mg "enumerate" = none) (ha : EA X W [e] f) (hg : Gl X "enumerate" := by rfl)
    (hs : starEach [e] X.env = [(false, eval e X.env)] := by rfl) : IV X W (.Tuple elts kk tpos) (.Call (.Name "enumerate" p) [e] [] pos) (mEnum f) := by
  intro F ρ σ B H R L P
  refine PI.wi (pi_enum hg hm pa_wa hs) ?_
  refine ha F ρ σ B H _ L ((Post.bind P).imp fun ds ρ1 B1 H1 e1 L1 P1 vs fs => ?_)
  obtain ⟨zs, hd, k⟩ := P1.opt
  split at hd
  · injection hd with hd; subst hd
    cases fs with
    | cons f1 fs =>
      cases fs
      cases f1 with
      | lst h1 g1 => exact ⟨_, _, rfl, .inl (.inl (L1.ex _ _ h1)), k B1 H1 (Ex.refl _) L1 _ (it_enum h1 g1)⟩
  · cases hd

/-! ### list(x), tuple(x) -/
def mListOf (f : M (List D)) : M (D × Bool) := M.bind f fun ds => M.opt (match ds with
  | [.lst xs] => some (.lst xs, true)
  | [.tup xs] => some (.lst xs, true)
  | _ => none)
theorem eo_listOf {p : Pos} {f : M (List D)} (hm : X.mg "list" = none) (ha : EA X W [a] f) (hg : Gl X "list" := by rfl) (he : starEach (a :: []) X.env = (false, eval a X.env) :: starEach [] X.env := by rfl) : EO X W (.Call (.Name "list" p) [a] [] pos) (mListOf f) := by
  intro F ρ σ B H Q L P
  refine PE.we (pe_callTy call_list_of hg hm (by decide +kernel) pa_wa (by decide) (by decide) he rfl) ?_
  refine ha F ρ σ B H _ L ((Post.bind P).imp fun ds ρ1 B1 H1 e1 L1 P1 vs fs => ?_)
  obtain ⟨p, hp, k⟩ := P1.opt
  split at hp
  · injection hp with hp; subst hp
    cases fs with
    | cons f1 fs =>
      cases fs
      cases f1 with
      | lst h1 g1 =>
        refine ⟨_, _, rfl, .inl (.inl (.inl (L1.ex _ _ h1))), fun q hq => ?_⟩
        obtain ⟨L4, v4⟩ := L1.newL hq g1
        exact k B1 _ (Ex.refl _) L4 _ v4
  · injection hp with hp; subst hp
    cases fs with
    | cons f1 fs =>
      cases fs
      cases f1 with
      | tup h1 g1 =>
        refine ⟨_, _, rfl, .inr (L1.ex.st h1), fun q hq => ?_⟩
        obtain ⟨L4, v4⟩ := L1.newL hq g1
        exact k B1 _ (Ex.refl _) L4 _ v4
  · cases hp
def dTupOf : List D → Option D
  | [.lst xs] => some (.tup xs)
  | [.tup xs] => some (.tup xs)
  | _ => none
theorem cd_tupOf : CallD K (fun xs H Q => ∃ p ys, xs = [.ref p] ∧ ((SqL K H p ys ∧ ∀ l, H l = none → Q (.ref l) (upd H l (.tup ys))) ∨ (SqT K H p ys ∧ Q (.ref p) H))) dTupOf := by
  intro xs ds d B H Q ex fs h g
  unfold dTupOf at h
  split at h
  · injection h with h; subst h
    cases fs with
    | cons f1 fs =>
      cases fs
      cases f1 with
      | lst h1 g1 => exact ⟨_, _, rfl, .inl ⟨.inl (.inl (ex _ _ h1)), fun l hl => g.2 l _ _ hl (.tup (.inl (.inl upd_same)) (g1.mono (Ex.new (ex.nn hl))))⟩⟩
  · injection h with h; subst h
    cases fs with
    | cons f1 fs =>
      cases fs
      cases f1 with
      | tup h1 g1 => exact ⟨_, _, rfl, .inr ⟨ex.st h1, g.1 _ (.tup h1 g1)⟩⟩
  · cases h
theorem ev_tupOf {p : Pos} {f : M (List D)} (hm : X.mg "tuple" = none) (ha : EA X W [a] f) (hg : Gl X "tuple" := by rfl) (he : starEach (a :: []) X.env = (false, eval a X.env) :: starEach [] X.env := by rfl) : EV X W (.Call (.Name "tuple" p) [a] [] pos) (mCall dTupOf f) := ev_callTy call_tuple_of cd_tupOf hg hm (by decide +kernel) ha (by decide) (by decide) he

/-! ### sum, max, min of a list of ints; int(flag) -/
def asInts : List D → Option (List Int)
  | [] => some []
  | .int i :: r => (asInts r).map (i :: ·)
  | _ => none
theorem asInts_eq : ∀ {ds : List D} {ns : List Int}, asInts ds = some ns → ds = ns.map D.int
  | [], ns, h => by injection h with h; subst h; rfl
  | .int i :: r, ns, h => by
    have h' : (asInts r).map (i :: ·) = some ns := h
    cases q : asInts r with
    | none => rw [q] at h'; cases h'
    | some ms => rw [q] at h'; injection h' with h'; subst h'; rw [List.map_cons, asInts_eq q]
  | .non :: _, _, h => by cases h
  | .bl _ :: _, _, h => by cases h
  | .str _ :: _, _, h => by cases h
  | .lst _ :: _, _, h => by cases h
  | .tup _ :: _, _, h => by cases h
  | .scr _ :: _, _, h => by cases h
theorem asInts_map : ∀ ns : List Int, asInts (ns.map D.int) = some ns
  | [] => rfl
  | n :: ns => by show (asInts (ns.map D.int)).map (n :: ·) = _; rw [asInts_map ns]; rfl
def dSum : List D → Option D
  | [.lst xs] => (asInts xs).map fun ns => .int ns.sum
  | _ => none
def maxI : List Int → Option Int
  | [] => none
  | n :: ns => some (ns.foldl max n)
def minI : List Int → Option Int
  | [] => none
  | n :: ns => some (ns.foldl min n)
def dMaxL : List D → Option D
  | [.lst xs] => ((asInts xs).bind maxI).map D.int
  | _ => none
def dMinL : List D → Option D
  | [.lst xs] => ((asInts xs).bind minI).map D.int
  | _ => none
theorem foldl_max (n : Int) (ns : List Int) : (ns.foldl max n = n ∨ ns.foldl max n ∈ ns) ∧ n ≤ ns.foldl max n ∧ ∀ m ∈ ns, m ≤ ns.foldl max n := by
  induction ns generalizing n with
  | nil => exact ⟨.inl rfl, Int.le_refl _, fun m h => by cases h⟩
  | cons k ns ih =>
    obtain ⟨h1, h2, h3⟩ := ih (max n k)
    rw [List.foldl_cons]
    refine ⟨?_, by omega, fun m hm => ?_⟩
    · rcases h1 with h1 | h1
      · rw [h1]
        by_cases q : n ≤ k
        · right; rw [show max n k = k by omega]; exact List.mem_cons_self
        · left; omega
      · right; exact List.mem_cons_of_mem _ h1
    · rcases List.mem_cons.mp hm with rfl | hm
      · omega
      · exact h3 m hm
theorem foldl_min (n : Int) (ns : List Int) : (ns.foldl min n = n ∨ ns.foldl min n ∈ ns) ∧ ns.foldl min n ≤ n ∧ ∀ m ∈ ns, ns.foldl min n ≤ m := by
  induction ns generalizing n with
  | nil => exact ⟨.inl rfl, Int.le_refl _, fun m h => by cases h⟩
  | cons k ns ih =>
    obtain ⟨h1, h2, h3⟩ := ih (min n k)
    rw [List.foldl_cons]
    refine ⟨?_, by omega, fun m hm => ?_⟩
    · rcases h1 with h1 | h1
      · rw [h1]
        by_cases q : k ≤ n
        · right; rw [show min n k = k by omega]; exact List.mem_cons_self
        · left; omega
      · right; exact List.mem_cons_of_mem _ h1
    · rcases List.mem_cons.mp hm with rfl | hm
      · omega
      · exact h3 m hm
theorem fz_ints {B : Hp} {v : V} {xs : List D} {ns : List Int} (f : Fz K B v (.lst xs)) (h : asInts xs = some ns) : ∃ p, v = .ref p ∧ B p = some (.lst (ns.map V.int)) := by
  cases f with
  | lst h1 g1 =>
    rw [asInts_eq h] at g1
    rw [g1.ints] at h1
    exact ⟨_, rfl, h1⟩
theorem cd_sum : CallD K (rSum K) dSum := by
  intro xs ds d B H Q ex fs h g
  unfold dSum at h
  split at h
  · cases q : asInts _ with
    | none => rw [q] at h; cases h
    | some ns =>
      rw [q] at h; injection h with h; subst h
      cases fs with
      | cons f1 fs =>
        cases fs
        obtain ⟨p, rfl, hp⟩ := fz_ints f1 q
        exact ⟨p, ns, rfl, .inl (.inl (ex _ _ hp)), g.1 _ (.int _)⟩
  · cases h
theorem cd_maxL : CallD K (rMax K) dMaxL := by
  intro xs ds d B H Q ex fs h g
  unfold dMaxL at h
  split at h
  · cases q : asInts _ with
    | none => rw [q] at h; cases h
    | some ns =>
      rw [q] at h
      cases ns with
      | nil => cases h
      | cons n ns =>
        injection h with h; subst h
        cases fs with
        | cons f1 fs =>
          cases fs
          obtain ⟨p, rfl, hp⟩ := fz_ints f1 q
          refine ⟨p, n :: ns, rfl, .inl (.inl (ex _ _ hp)), by rw [List.length_cons]; omega, fun m hm hle => ?_⟩
          obtain ⟨h1, h2, h3⟩ := foldl_max n ns
          have e : m = ns.foldl max n := by
            have a1 : ns.foldl max n ≤ m := by
              rcases h1 with h1 | h1
              · rw [h1]; exact hle n List.mem_cons_self
              · exact hle _ (List.mem_cons_of_mem _ h1)
            have a2 : m ≤ ns.foldl max n := by
              rcases List.mem_cons.mp hm with z | z
              · omega
              · exact h3 m z
            omega
          rw [e]
          exact g.1 _ (.int _)
  · cases h
theorem cd_minL : CallD K (rMin K) dMinL := by
  intro xs ds d B H Q ex fs h g
  unfold dMinL at h
  split at h
  · cases q : asInts _ with
    | none => rw [q] at h; cases h
    | some ns =>
      rw [q] at h
      cases ns with
      | nil => cases h
      | cons n ns =>
        injection h with h; subst h
        cases fs with
        | cons f1 fs =>
          cases fs
          obtain ⟨p, rfl, hp⟩ := fz_ints f1 q
          refine ⟨p, n :: ns, rfl, .inl (.inl (ex _ _ hp)), by rw [List.length_cons]; omega, fun m hm hle => ?_⟩
          obtain ⟨h1, h2, h3⟩ := foldl_min n ns
          have e : m = ns.foldl min n := by
            have a1 : m ≤ ns.foldl min n := by
              rcases h1 with h1 | h1
              · rw [h1]; exact hle n List.mem_cons_self
              · exact hle _ (List.mem_cons_of_mem _ h1)
            have a2 : ns.foldl min n ≤ m := by
              rcases List.mem_cons.mp hm with z | z
              · omega
              · exact h3 m z
            omega
          rw [e]
          exact g.1 _ (.int _)
  · cases h
variable {p : Pos} {fa : M (List D)}
theorem ev_sum (hc : X.calm = true) (hm : X.mg "sum" = none) (ha : EA X W [a] fa) (hg : Gl X "sum" := by rfl) (he : starEach (a :: []) X.env = (false, eval a X.env) :: starEach [] X.env := by rfl) : EV X W (.Call (.Name "sum" p) [a] [] pos) (mCall dSum fa) := ev_callB (cr_sum hc) cd_sum hg hm (by decide +kernel) ha (by decide) (by decide) he
theorem ev_maxL (hc : X.calm = true) (hm : X.mg "max" = none) (ha : EA X W [a] fa) (hg : Gl X "max" := by rfl) (he : starEach (a :: []) X.env = (false, eval a X.env) :: starEach [] X.env := by rfl) : EV X W (.Call (.Name "max" p) [a] [] pos) (mCall dMaxL fa) := ev_callB (cr_max hc) cd_maxL hg hm (by decide +kernel) ha (by decide) (by decide) he
theorem ev_minL (hc : X.calm = true) (hm : X.mg "min" = none) (ha : EA X W [a] fa) (hg : Gl X "min" := by rfl) (he : starEach (a :: []) X.env = (false, eval a X.env) :: starEach [] X.env := by rfl) : EV X W (.Call (.Name "min" p) [a] [] pos) (mCall dMinL fa) := ev_callB (cr_min hc) cd_minL hg hm (by decide +kernel) ha (by decide) (by decide) he
def dInt : List D → Option D
  | [.int i] => some (.int i)
  | [.bl k] => some (.int (if k then 1 else 0))
  | _ => none
theorem cd_int : CallD K (fun xs H Q => (∃ i, xs = [.int i] ∧ Q (.int i) H) ∨ ∃ k, xs = [.bl k] ∧ Q (.int (if k then 1 else 0)) H) dInt := by
  intro xs ds d B H Q ex fs h g
  unfold dInt at h
  split at h
  · injection h with h; subst h
    cases fs with
    | cons f1 fs => cases fs; cases f1; exact .inl ⟨_, rfl, g.1 _ (.int _)⟩
  · injection h with h; subst h
    cases fs with
    | cons f1 fs => cases fs; cases f1; exact .inr ⟨_, rfl, g.1 _ (.int _)⟩
  · cases h
theorem ev_intOf (hm : X.mg "int" = none) (ha : EA X W [a] fa) (hg : Gl X "int" := by rfl) (he : starEach (a :: []) X.env = (false, eval a X.env) :: starEach [] X.env := by rfl) : EV X W (.Call (.Name "int" p) [a] [] pos) (mCall dInt fa) := ev_callTy call_int1 cd_int hg hm (by decide +kernel) ha (by decide) (by decide) he

/-! ### methods of owned lists -/
def chkL (i : Nat) : M Unit := fun ρ => match ρ[i]? with
  | some (.ow (.lst _)) => .ok () ρ
  | some (.io (.lst _)) => .ok () ρ
  | _ => .fail
theorem Lv.chkL {F : Fr} {ρ : Env} {σ : St} {B H : Hp} {i : Nat} (L : Lv K F ρ σ B H) (h : Dt.chkL i ρ ≠ .fail) : Dt.chkL i ρ = .ok () ρ ∧ ∃ a vs, σ[i]? = some (some (.ref a)) ∧ H a = some (.lst vs) := by
  unfold Dt.chkL at h ⊢
  split at h
  · rename_i d q
    obtain ⟨a, e1, w, _⟩ := L.ow i _ q rfl
    obtain ⟨_, vs, h1, _⟩ := w
    exact ⟨by simp only [q], _, _, e1, h1⟩
  · rename_i d q
    obtain ⟨a, e1, w, _⟩ := L.ow i _ q rfl
    obtain ⟨_, vs, h1, _⟩ := w
    exact ⟨by simp only [q], _, _, e1, h1⟩
  · exact absurd rfl h
/-- what an owned list is changed to -/
def mUpd (i : Nat) (h : List D → Option (List D)) : M Fl := fun ρ => match ρ[i]? with
  | some (.ow (.lst ds)) => match h ds with
    | some ds' => .ok .nx (ρ.set i (.ow (.lst ds')))
    | none => .fail
  | some (.io (.lst ds)) => match h ds with
    | some ds' => .ok .nx (ρ.set i (.io (.lst ds')))
    | none => .fail
  | _ => .fail
theorem Lv.upd1 {F : Fr} {ρ : Env} {σ : St} {B H : Hp} {i : Nat} {h : List D → Option (List D)} {N : Ends} {aa : Addr} (L : Lv X.K F ρ σ B H) (ev : σ[i]? = some (some (.ref aa))) (P : PostS X W F B (mUpd i h ρ) N) :
    ∃ vs ds ds', H aa = some (.lst vs) ∧ Fzs X.K B vs ds ∧ h ds = some ds' ∧ ∀ vs', Fzs X.K B vs' ds' → N.nx σ (upd H aa (.lst vs')) := by
  have go : ∀ {s : Slot} {ds : List D}, ρ[i]? = some s → owned s = true → s.dat = .lst ds → (∀ ds', h ds = some ds' → PostS X W F B (.ok .nx (ρ.set i (reslot ρ[i]? (.lst ds')))) N) → (h ds = none → False) → ∃ vs ds ds', H aa = some (.lst vs) ∧ Fzs X.K B vs ds ∧ h ds = some ds' ∧ ∀ vs', Fzs X.K B vs' ds' → N.nx σ (upd H aa (.lst vs')) := by
    intro s ds q ho hd P2 nf
    obtain ⟨a', vs, h1, h2, fs, st⟩ := L.setAt (ds' := ds) q ho hd
    rw [ev] at h1; injection h1 with h1; injection h1 with h1; injection h1 with h1; subst h1
    cases q2 : h ds with
    | none => exact (nf q2).elim
    | some ds' => exact ⟨vs, ds, ds', h2, fs, q2, fun vs' f' => P2 ds' q2 σ B _ (Ex.refl _) (st vs' ds' f')⟩
  unfold mUpd at P
  split at P
  · rename_i ds q
    refine go q rfl rfl (fun ds' z => ?_) (fun z => ?_)
    · rw [q]; simp only [z] at P; exact P
    · simp only [z] at P; exact P
  · rename_i ds q
    refine go q rfl rfl (fun ds' z => ?_) (fun z => ?_)
    · rw [q]; simp only [z] at P; exact P
    · simp only [z] at P; exact P
  · exact P.elim
/-- x.append(e) -/
def mApp1 (i : Nat) (fe : M D) : M Fl := M.bind (chkL i) fun _ => M.bind fe fun d => mUpd i fun ds => if ds.length < 10000 then some (ds ++ [d]) else none
theorem sv_app {i : Nat} {x : Str} {px apos cpos : Pos} {fe : M D} (he : EV X W e fe) (hN : X.N[i]? = some x := by rfl) (hv : Vis X.env.scope x := by first | exact Or.inl rfl | exact Or.inr (Or.inl rfl) | exact Or.inr (Or.inr rfl)) (hd : (x == ("__debug__" : Str)) = false := by decide)
    (hcd : (x == ("__classdict__" : Str)) = false := by decide) (hbase : attributeBase (.Name x px) "append" X.env (eval (.Name x px) X.env) = eval (.Name x px) X.env := by rfl)
    (hfew : ((backTo cpos (starEach (e :: []) X.env)).all (fun x => !x.1) && (backToKw cpos (keywordEach [] X.env)).all (fun x => x.1.isSome)
      && decide ((e :: []).length + ([] : List Keyword).length + (if ([] : List Keyword).isEmpty then 0 else 1) < 30)) = true := by rfl)
    (hline : (apos.endLine == cpos.line) = true := by rfl) (hs : starEach (e :: []) X.env = (false, eval e X.env) :: starEach [] X.env := by rfl)
    (hsw : swapsWith (.Call (.Attribute (.Name x px) "append" apos) [e] [] cpos) none pos.line X.env = pure false := by rfl) : SV X W (.Expr (.Call (.Attribute (.Name x px) "append" apos) [e] [] cpos) pos) (mApp1 i fe) := by
  intro F ρ σ B H N L P
  refine PS.ws (ps_expr (pe_bm PySem.F.plainAttrs_list PySem.F.slot_list_append PySem.F.type_list_append mt_append (pe_var hN hv hd hcd) (pa_cons pe_we pa_nil hs) hbase hfew hline hs rfl) hsw) ?_
  have P0 : PostS X W F B ((M.bind (chkL i) fun _ => M.bind fe fun d => mUpd i fun ds => if ds.length < 10000 then some (ds ++ [d]) else none) ρ) N := P
  have hne : chkL i ρ ≠ .fail := fun z => by unfold M.bind at P0; simp only [z] at P0; exact P0.elim
  obtain ⟨hck, aa, vs, ev, hl⟩ := L.chkL hne
  unfold M.bind at P0
  simp only [hck] at P0
  refine ⟨_, ev, .inl ⟨rfl, vs, .inl (.inl hl)⟩, ?_⟩
  refine he F ρ σ B H _ L ((PostS.bind (σ := σ) P0).imp fun d ρ1 B1 H1 e1 L1 P1 v fv => ?_)
  obtain ⟨vs1, ds1, ds2, h1, fs, h2, k⟩ := L1.upd1 ev P1
  split at h2
  · rename_i hz
    injection h2 with h2; subst h2
    exact ⟨aa, vs1, v, rfl, rfl, h1, lt_line (by rw [fs.len]; exact hz), k _ (fs.append (.cons fv .nil))⟩
  · cases h2
/-- x += e of an int -/
def mAugI (i : Nat) (h : Int → Int → Int) (f : M D) : M Fl := M.bind (chk i) fun _ => M.bind f fun d ρ => match ρ[i]?, d with
  | some (.fz (.int z)), .int y => .ok .nx (ρ.set i (.fz (.int (h z y))))
  | _, _ => .fail
end
end Dt
/-! Dt: rules by which meanings are worked out. -/
namespace Dt
open PySem L2
def Rs.bnd {α β : Type} (r : Rs α) (g : α → M β) : Rs β := match r with
  | .ok a ρ' => g a ρ'
  | .rz c ρ' => .rz c ρ'
  | .fail => .fail
section
variable {α β : Type} {ρ ρ' : Env} {a : α} {c : Str} {g : α → M β} {f : M α}
@[simp] theorem ok_bnd : (Rs.ok a ρ).bnd g = g a ρ := rfl
@[simp] theorem rz_bnd : (Rs.rz c ρ : Rs α).bnd g = .rz c ρ := rfl
@[simp] theorem fail_bnd : (Rs.fail : Rs α).bnd g = .fail := rfl
@[simp] theorem bind_ap : M.bind f g ρ = (f ρ).bnd g := rfl
@[simp] theorem pure_ap : M.pure a ρ = .ok a ρ := rfl
@[simp] theorem fail_ap : (M.fail : M α) ρ = .fail := rfl
@[simp] theorem opt_some : M.opt (some a) ρ = .ok a ρ := rfl
@[simp] theorem opt_none : (M.opt none : M α) ρ = .fail := rfl
@[simp] theorem raise_ap : (M.raise c : M α) ρ = .rz c ρ := rfl
theorem if_bnd {p : Prop} [Decidable p] {r1 r2 : Rs α} : (if p then r1 else r2).bnd g = if p then r1.bnd g else r2.bnd g := by split <;> rfl
end
section
variable {i j : Nat} {ρ : Env} {d x y : D} {f f1 f2 f3 : M D} {fs : M (List D)} {fo : M (D × Bool)} {t u : M Bool} {a b : M Fl} {g : D → D → Option D} {g1 : D → Option D} {gs : List D → Option D} {k : Bool}
theorem var_fz (h : ρ[i]? = some (.fz d)) : mVar i ρ = .ok d ρ := by unfold mVar; rw [h]
@[simp] theorem var_ap : mVar i ρ = match ρ[i]? with
  | some (.fz d) => .ok d ρ
  | some (.ow d) => .ok d (ρ.set i (.fz d))
  | _ => .fail := rfl
@[simp] theorem bin_ap : mBin g f1 f2 ρ = (f1 ρ).bnd fun x => M.bind f2 fun y => M.opt (g x y) := rfl
@[simp] theorem un_ap : mUn g1 f ρ = (f ρ).bnd fun x => M.opt (g1 x) := rfl
@[simp] theorem test_ap : mTest f ρ = (f ρ).bnd fun d => M.opt (asBl d) := rfl
@[simp] theorem asBl_bl : asBl (.bl k) = some k := rfl
@[simp] theorem nil_ap : mNil ρ = .ok [] ρ := rfl
@[simp] theorem cons_ap : mCons f fs ρ = (f ρ).bnd fun x => M.bind fs fun xs => M.pure (x :: xs) := rfl
@[simp] theorem call_ap : mCall gs fs ρ = (fs ρ).bnd fun xs => M.opt (gs xs) := rfl
@[simp] theorem tup_ap : mTup fs ρ = (fs ρ).bnd fun xs => M.opt (if xs.length ≤ 10000 then some (.tup xs) else none) := rfl
@[simp] theorem lst_ap : mLst fs ρ = (fs ρ).bnd fun xs => M.opt (if xs.length ≤ 10000 then some (.lst xs, true) else none) := rfl
@[simp] theorem mfz_ap : mFz fo ρ = (fo ρ).bnd fun p => M.pure p.1 := rfl
@[simp] theorem mof_ap : mOf f ρ = (f ρ).bnd fun d => M.pure (d, false) := rfl
@[simp] theorem move_ap : mMove i ρ = match ρ[i]? with
  | some (.fz d) => .ok (d, false) ρ
  | some (.ow d) => .ok (d, true) (ρ.set i .un)
  | _ => .fail := rfl
@[simp] theorem and_ap : mAnd t u ρ = (t ρ).bnd fun k => match k with
  | true => u
  | false => M.pure false := rfl
@[simp] theorem or_ap : mOr t u ρ = (t ρ).bnd fun k => match k with
  | true => M.pure true
  | false => u := rfl
@[simp] theorem not_ap : mNot t ρ = (t ρ).bnd fun k => M.pure (!k) := rfl
@[simp] theorem andV_ap : mAndV f1 f2 ρ = (f1 ρ).bnd fun d => match d with
  | .bl true => f2
  | .bl false => M.pure (.bl false)
  | _ => M.fail := rfl
@[simp] theorem orV_ap : mOrV f1 f2 ρ = (f1 ρ).bnd fun d => match d with
  | .bl true => M.pure (.bl true)
  | .bl false => f2
  | _ => M.fail := rfl
@[simp] theorem notV_ap : mNotV f ρ = (f ρ).bnd fun d => match d with
  | .bl k => M.pure (.bl (!k))
  | _ => M.fail := rfl
@[simp] theorem mif_ap {α : Type} {a b : M α} : mIf t a b ρ = (t ρ).bnd fun k => match k with
  | true => a
  | false => b := rfl
@[simp] theorem seq_ap : mSeq a b ρ = (a ρ).bnd fun fl => match fl with
  | .nx => b
  | .bk => M.pure .bk
  | .ct => M.pure .ct
  | .rt d o => M.pure (.rt d o) := rfl
@[simp] theorem mnx_ap : mNx ρ = .ok .nx ρ := rfl
@[simp] theorem set_ap : mSet i fo ρ = (fo ρ).bnd (mPut i) := rfl
@[simp] theorem put_ap {p : D × Bool} : mPut i p ρ = .ok .nx (ρ.set i (if p.2 then .ow p.1 else .fz p.1)) := rfl
@[simp] theorem ret_ap : mRet fo ρ = (fo ρ).bnd fun p => M.pure (.rt p.1 p.2) := rfl
@[simp] theorem drop_ap : mDrop f ρ = (f ρ).bnd fun _ => mNx := rfl
@[simp] theorem isi_ap {T : String} : mIsi T f ρ = (f ρ).bnd fun d => M.opt (dIsi T d) := rfl
@[simp] theorem par_ap : mPar i j fs ρ = (fs ρ).bnd fun ds ρ => match ds with
  | [x, y] => .ok .nx ((ρ.set i (.fz x)).set j (.fz y))
  | _ => .fail := rfl
@[simp] theorem asg_ap {h : D → Env → Option Env} : mAsg h f ρ = (f ρ).bnd fun d ρ => match h d ρ with
  | some ρ' => .ok .nx ρ'
  | none => .fail := rfl
@[simp] theorem gN_ap : gN i d ρ = some (ρ.set i (.fz d)) := rfl
@[simp] theorem gsN_ap : gsN [] ρ = some ρ := rfl
@[simp] theorem gsC_ap {h : D → Env → Option Env} {hs : List D → Env → Option Env} {r : List D} : gsC h hs (d :: r) ρ = (h d ρ).bind (hs r) := rfl
@[simp] theorem gT_ap {n : Nat} {hs : List D → Env → Option Env} {ds : List D} : gT n hs (.tup ds) ρ = if ds.length = n then hs ds ρ else none := rfl
@[simp] theorem for_ap {h : D → Env → Option Env} : mFor fs h b ρ = (fs ρ).bnd (mForL h b) := rfl
@[simp] theorem forL_nil {h : D → Env → Option Env} : mForL h b [] ρ = .ok .nx ρ := rfl
theorem forL_cons {h : D → Env → Option Env} {r : List D} : mForL h b (d :: r) ρ = match h d ρ with
    | none => .fail
    | some ρ1 => (b ρ1).bnd fun fl => match fl with
      | .nx => mForL h b r
      | .ct => mForL h b r
      | .bk => mNx
      | .rt d o => M.pure (.rt d o) := rfl
@[simp] theorem range1_ap : mRange1 fs ρ = (fs ρ).bnd fun ds => M.opt (match ds with
  | [.int j] => if -100000000 < j ∧ j < 100000000 then some (rangeD 0 j) else none
  | _ => none) := rfl
@[simp] theorem range2_ap : mRange2 fs ρ = (fs ρ).bnd fun ds => M.opt (match ds with
  | [.int i, .int j] => if (-100000000 < i ∧ i < 100000000) ∧ (-100000000 < j ∧ j < 100000000) then some (rangeD i j) else none
  | _ => none) := rfl
@[simp] theorem iter_ap : mIter f ρ = (f ρ).bnd fun d => M.opt (match d with
  | .lst ds => some ds
  | _ => none) := rfl
@[simp] theorem chk_ap : chk i ρ = match ρ[i]? with
  | some (.ow _) => .ok () ρ
  | some (.io _) => .ok () ρ
  | some (.fz _) => .ok () ρ
  | _ => .fail := rfl
@[simp] theorem peek_ap : mPeek i f ρ = (chk i ρ).bnd fun _ => M.bind f fun k ρ => match (contR ρ[i]?).bind fun d => dIxL d k with
  | some z => .ok z ρ
  | none => .fail := rfl
@[simp] theorem putAt_ap : mPutAt i f1 f2 ρ = (f1 ρ).bnd fun d => M.bind (chk i) fun _ => M.bind f2 fun k ρ => match ρ[i]?, k with
  | some (.ow (.lst ds)), .int z => match ixN ds.length z with
    | some j => .ok .nx (ρ.set i (.ow (.lst (ds.set j d))))
    | none => .fail
  | some (.io (.lst ds)), .int z => match ixN ds.length z with
    | some j => .ok .nx (ρ.set i (.io (.lst (ds.set j d))))
    | none => .fail
  | _, _ => .fail := rfl
/-! calls -/
variable {fx : M (List AV)} {m : Option Nat} {n : Nat} {h : List D → Rf} {av : AV} {avs : List AV} {ds : List D} {sl : Option Slot}
@[simp] theorem xNil_ap : xNil ρ = .ok [] ρ := rfl
@[simp] theorem xV_ap : xV f fx ρ = (f ρ).bnd fun x => M.bind fx fun xs => M.pure (.v x :: xs) := rfl
@[simp] theorem xS_ap : xS i fx ρ = ((match ρ[i]? with
  | some (.ow _) => Rs.ok () ρ
  | some (.io _) => .ok () ρ
  | _ => .fail) : Rs Unit).bnd fun _ => M.bind fx fun xs => M.pure (.s i :: xs) := rfl
@[simp] theorem callN_ap : mCallN n m h fx ρ = (fx ρ).bnd fun avs ρ => (if avs.length = n then match setup ρ m avs with
  | none => .fail
  | some ds => match h ds with
    | .ok d o out => .ok (d, o) (match slotOf m avs with
      | none => ρ
      | some i => ρ.set i (reslot ρ[i]? out))
    | .rz c => .rz c (match slotOf m avs with
      | none => ρ
      | some i => ρ.set i .un)
    | .fail => .fail else .fail) := by
  unfold mCallN mCallF
  rw [bind_ap, bind_ap]
  cases q : fx ρ with
  | ok avs ρ1 =>
    simp only [ok_bnd]
    split
    · simp only [opt_some, ok_bnd] <;> rfl
    · rfl
  | rz c ρ1 => rfl
  | fail => rfl
@[simp] theorem setup_nil : setup ρ none [] = some [] := rfl
@[simp] theorem setup_v : setup ρ none (.v d :: avs) = (setup ρ none avs).map (d :: ·) := rfl
@[simp] theorem setup_s : setup ρ (some 0) (.s i :: avs) = (contS ρ[i]?).bind fun d => (setup ρ none avs).map (d :: ·) := rfl
@[simp] theorem setup_vs : setup ρ (some (j + 1)) (.v d :: avs) = (setup ρ (some j) avs).map (d :: ·) := rfl
@[simp] theorem slotOf_n : slotOf none avs = none := slotOf_none avs
@[simp] theorem slotOf_s : slotOf (some 0) (.s i :: avs) = some i := rfl
@[simp] theorem slotOf_v : slotOf (some (j + 1)) (av :: avs) = slotOf (some j) avs := by cases av <;> rfl
@[simp] theorem contS_ow : contS (some (.ow d)) = some d := rfl
@[simp] theorem contS_io : contS (some (.io d)) = some d := rfl
@[simp] theorem contR_ow : contR (some (.ow d)) = some d := rfl
@[simp] theorem contR_io : contR (some (.io d)) = some d := rfl
@[simp] theorem contR_fz : contR (some (.fz d)) = some d := rfl
@[simp] theorem reslot_ow : reslot (some (.ow x)) d = .ow d := rfl
@[simp] theorem reslot_io : reslot (some (.io x)) d = .io d := rfl
@[simp] theorem initS_nil : initS none [] = [] := rfl
@[simp] theorem initS_n : initS none (d :: ds) = .fz d :: initS none ds := rfl
@[simp] theorem initS_0 : initS (some 0) (d :: ds) = .io d :: initS none ds := rfl
@[simp] theorem initS_s : initS (some (j + 1)) (d :: ds) = .fz d :: initS (some j) ds := rfl
@[simp] theorem initE_ap : initE m n ds = initS m ds ++ List.replicate (n - ds.length) .un := rfl
@[simp] theorem fin_n {o : Bool} : fin none d o ρ = .ok d o .non := rfl
@[simp] theorem fin_s {o : Bool} : fin (some j) d o ρ = match ρ[j]? with
    | some (.io out) => .ok d o out
    | _ => .fail := rfl
/-! operators -/
variable {p q : Int} {xs ys : List D} {s1 s2 : Str} {k1 k2 : Bool}
@[simp] theorem dAdd_i : dAdd (.int p) (.int q) = some (.int (p + q)) := rfl
@[simp] theorem dSub_i : dSub (.int p) (.int q) = some (.int (p - q)) := rfl
@[simp] theorem dMul_i : dMul (.int p) (.int q) = if mulOk p q = true then some (.int (p * q)) else none := rfl
@[simp] theorem dDiv_i : dDiv (.int p) (.int q) = if divOk p q = true then some (.int (p.fdiv q)) else none := rfl
@[simp] theorem dMod_i : dMod (.int p) (.int q) = if modOk p q = true then some (.int (p.fmod q)) else none := rfl
@[simp] theorem dPow_i : dPow (.int p) (.int q) = if powOk p q = true then some (.int (p ^ q.toNat)) else none := rfl
@[simp] theorem dLt_i : dLt (.int p) (.int q) = some (.bl (decide (p < q))) := rfl
@[simp] theorem dLe_i : dLe (.int p) (.int q) = some (.bl (decide (p ≤ q))) := rfl
@[simp] theorem dGt_i : dGt (.int p) (.int q) = some (.bl (decide (q < p))) := rfl
@[simp] theorem dGe_i : dGe (.int p) (.int q) = some (.bl (decide (q ≤ p))) := rfl
@[simp] theorem dNeg_i : dNeg (.int p) = some (.int (-p)) := rfl
@[simp] theorem dEq_i : dEq (.int p) (.int q) = some (.bl (decide (p = q))) := by rw [← Bool.beq_eq_decide_eq]; rfl
@[simp] theorem dNe_i : dNe (.int p) (.int q) = some (.bl (!decide (p = q))) := by rw [← Bool.beq_eq_decide_eq]; rfl
@[simp] theorem dEq_s : dEq (.str s1) (.str s2) = some (.bl (decide (s1 = s2))) := by rw [← Bool.beq_eq_decide_eq]; rfl
@[simp] theorem dNe_s : dNe (.str s1) (.str s2) = some (.bl (!decide (s1 = s2))) := by rw [← Bool.beq_eq_decide_eq]; rfl
@[simp] theorem dIs_b : dIs (.bl k1) (.bl k2) = some (.bl (decide (k1 = k2))) := rfl
@[simp] theorem dIsNot_b : dIsNot (.bl k1) (.bl k2) = some (.bl (!decide (k1 = k2))) := rfl
@[simp] theorem dAbs_i : dAbs [.int p] = some (.int ((p.natAbs : Nat) : Int)) := by
  show some (D.int (if p < 0 then -p else p)) = _
  congr 2
  split <;> omega
@[simp] theorem dLen_l : dLen [.lst xs] = some (.int xs.length) := rfl
@[simp] theorem dLen_t : dLen [.tup xs] = some (.int xs.length) := rfl
@[simp] theorem dLen_c {ns : List Int} : dLen [.scr ns] = some (.int ns.length) := rfl
@[simp] theorem dIx_l : dIx (.lst xs) (.int p) = L2.atI xs p := rfl
@[simp] theorem dIx_t : dIx (.tup xs) (.int p) = L2.atI xs p := rfl
@[simp] theorem dIx_c {ns : List Int} : dIx (.scr ns) (.int p) = (L2.atI ns p).map D.int := rfl
@[simp] theorem dIxL_l : dIxL (.lst xs) (.int p) = L2.atI xs p := rfl
/-! small places -/
@[simp] theorem at0 {α : Type} {x : α} {xs : List α} : L2.atI (x :: xs) 0 = some x := by
  unfold L2.atI ixN
  simp only [List.length_cons]
  rw [if_pos (by decide), if_pos (by omega)]
  rfl
@[simp] theorem at1 {α : Type} {x y : α} {xs : List α} : L2.atI (x :: y :: xs) 1 = some y := by
  unfold L2.atI ixN
  simp only [List.length_cons]
  rw [if_pos (by decide), if_pos (by omega)]
  rfl
@[simp] theorem ix0 {n : Nat} : ixN (n + 1) 0 = some 0 := by
  unfold ixN
  rw [if_pos (by decide), if_pos (by omega)]; rfl
@[simp] theorem ix1 {n : Nat} : ixN (n + 2) 1 = some 1 := by
  unfold ixN
  rw [if_pos (by decide), if_pos (by omega)]; rfl
theorem mulOk_of {p q : Int} {a b : Nat} (hp : p.natAbs < 2 ^ a) (hq : q.natAbs < 2 ^ b) (h : a + b ≤ 90000000) : mulOk p q = true := by
  unfold mulOk
  rw [decide_eq_true_iff]
  have l : ∀ {n k : Nat}, n < 2 ^ k → n.log2 ≤ k := fun {n k} h => by
    rcases Nat.eq_zero_or_pos n with z | z
    · subst z; simp
    · exact Nat.le_of_lt ((Nat.log2_lt (by omega)).mpr h)
  have h1 := l hp
  have h2 := l hq
  omega
theorem divOk_of {p q : Int} {b : Nat} (h0 : q ≠ 0) (hq : q.natAbs < 2 ^ b) (h : b < 9000) : divOk p q = true := by
  unfold divOk
  rw [decide_eq_true h0, Bool.true_and, decide_eq_true_iff]
  exact Nat.lt_of_lt_of_le ((Nat.log2_lt (by omega)).mpr hq) (by omega)
@[simp] theorem modOk_of {p q : Int} (h0 : q ≠ 0) : modOk p q = true := by
  unfold modOk
  exact decide_eq_true h0
end
end Dt
namespace Dt
open PySem L2
theorem kit1 : kitB "tuple" "tuple" = some true := by decide +kernel
theorem kit2 : kitB "int" "int" = some true := by decide +kernel
theorem kit3 : kitB "int" "bool" = some false := by decide +kernel
theorem kit4 : kitB "bool" "bool" = some true := by decide +kernel
theorem kit5 : kitB "list" "list" = some true := by decide +kernel
theorem kit6 : kitB "bool" "int" = some true := by decide +kernel
theorem kit7 : kitB "str" "str" = some true := by decide +kernel
section
variable {xs : List D} {i : Int} {k k2 : Bool} {x : Str}
@[simp] theorem isi_tt : dIsi "tuple" (.tup xs) = some (.bl true) := by show (kitB "tuple" "tuple").map D.bl = _; rw [kit1]; rfl
@[simp] theorem isi_ii : dIsi "int" (.int i) = some (.bl true) := by show (kitB "int" "int").map D.bl = _; rw [kit2]; rfl
@[simp] theorem isi_ib : dIsi "bool" (.int i) = some (.bl false) := by show (kitB "int" "bool").map D.bl = _; rw [kit3]; rfl
@[simp] theorem isi_bb : dIsi "bool" (.bl k) = some (.bl true) := by show (kitB "bool" "bool").map D.bl = _; rw [kit4]; rfl
@[simp] theorem isi_ll : dIsi "list" (.lst xs) = some (.bl true) := by show (kitB "list" "list").map D.bl = _; rw [kit5]; rfl
@[simp] theorem isi_bi : dIsi "int" (.bl k) = some (.bl true) := by show (kitB "bool" "int").map D.bl = _; rw [kit6]; rfl
@[simp] theorem isi_ss : dIsi "str" (.str x) = some (.bl true) := by show (kitB "str" "str").map D.bl = _; rw [kit7]; rfl
@[simp] theorem dEq_b : dEq (.bl k) (.bl k2) = some (.bl (k == k2)) := by
  cases k <;> cases k2 <;> rfl
@[simp] theorem dNe_b : dNe (.bl k) (.bl k2) = some (.bl (!(k == k2))) := by
  cases k <;> cases k2 <;> rfl
end
end Dt
namespace Std
open PySem PySem.Spec PyProof.Rows L2 Dt
noncomputable def fb_common : M Fl :=
  mSeq (mWh (mTest (mBin dNe (mVar 1) (M.pure (.int 0)))) (mPar 0 1 (mCons (mVar 1) (mCons (mBin dMod (mVar 0) (mVar 1)) (mNil)))))
    (mRet (mMove 0))
noncomputable def fn_common : List D → Rf := runF none 2 fb_common
noncomputable def fb_fraction : M Fl :=
  mSeq (mIf (mTest (mBin dEq (mVar 1) (M.pure (.int 0)))) (M.raise "NoFraction") (mNx))
    (mSeq (mSet 2 (mCallN 2 none fn_common (xV (mCall dAbs (mCons (mVar 0) (mNil))) (xV (mCall dAbs (mCons (mVar 1) (mNil))) (xNil)))))
    (mSeq (mIf (mTest (mBin dLt (mVar 1) (M.pure (.int 0)))) (mSet 2 (mOf (mBin dSub (M.pure (.int 0)) (mVar 2)))) (mNx))
    (mRet (mOf (mTup (mCons (mBin dDiv (mVar 0) (mVar 2)) (mCons (mBin dDiv (mVar 1) (mVar 2)) (mNil))))))))
noncomputable def fn_fraction : List D → Rf := runF none 3 fb_fraction
noncomputable def fb_plus : M Fl :=
  mRet (mCallN 2 none fn_fraction (xV (mBin dAdd (mBin dMul (mBin dIx (mVar 0) (M.pure (.int 0))) (mBin dIx (mVar 1) (M.pure (.int 1)))) (mBin dMul (mBin dIx (mVar 1) (M.pure (.int 0))) (mBin dIx (mVar 0) (M.pure (.int 1))))) (xV (mBin dMul (mBin dIx (mVar 0) (M.pure (.int 1))) (mBin dIx (mVar 1) (M.pure (.int 1)))) (xNil))))
noncomputable def fn_plus : List D → Rf := runF none 2 fb_plus
noncomputable def fb_less : M Fl :=
  mRet (mCallN 2 none fn_fraction (xV (mBin dSub (mBin dMul (mBin dIx (mVar 0) (M.pure (.int 0))) (mBin dIx (mVar 1) (M.pure (.int 1)))) (mBin dMul (mBin dIx (mVar 1) (M.pure (.int 0))) (mBin dIx (mVar 0) (M.pure (.int 1))))) (xV (mBin dMul (mBin dIx (mVar 0) (M.pure (.int 1))) (mBin dIx (mVar 1) (M.pure (.int 1)))) (xNil))))
noncomputable def fn_less : List D → Rf := runF none 2 fb_less
noncomputable def fb_times : M Fl :=
  mRet (mCallN 2 none fn_fraction (xV (mBin dMul (mBin dIx (mVar 0) (M.pure (.int 0))) (mBin dIx (mVar 1) (M.pure (.int 0)))) (xV (mBin dMul (mBin dIx (mVar 0) (M.pure (.int 1))) (mBin dIx (mVar 1) (M.pure (.int 1)))) (xNil))))
noncomputable def fn_times : List D → Rf := runF none 2 fb_times
noncomputable def fb_over : M Fl :=
  mRet (mCallN 2 none fn_fraction (xV (mBin dMul (mBin dIx (mVar 0) (M.pure (.int 0))) (mBin dIx (mVar 1) (M.pure (.int 1)))) (xV (mBin dMul (mBin dIx (mVar 0) (M.pure (.int 1))) (mBin dIx (mVar 1) (M.pure (.int 0)))) (xNil))))
noncomputable def fn_over : List D → Rf := runF none 2 fb_over
noncomputable def fb_is_less : M Fl :=
  mRet (mOf (mBin dLt (mBin dMul (mBin dIx (mVar 0) (M.pure (.int 0))) (mBin dIx (mVar 1) (M.pure (.int 1)))) (mBin dMul (mBin dIx (mVar 1) (M.pure (.int 0))) (mBin dIx (mVar 0) (M.pure (.int 1))))))
noncomputable def fn_is_less : List D → Rf := runF none 2 fb_is_less
noncomputable def fb_total : M Fl :=
  mSeq (mSet 1 (mOf (M.pure (.tup [(.int 0), (.int 1)]))))
    (mSeq (mFor (mIter (mVar 0)) (gN 2) (mSet 1 (mCallN 2 none fn_plus (xV (mVar 1) (xV (mVar 2) (xNil))))))
    (mRet (mMove 1)))
noncomputable def fn_total : List D → Rf := runF none 3 fb_total
noncomputable def fb__law_stream : M Fl :=
  mSeq (mIf (mTest (mBin dLt (mVar 1) (mCall dLen (mCons (mVar 0) (mNil))))) (mSeq (mSet 2 (mOf (mBin dIx (mVar 0) (mVar 1))))
    (mSeq (mSet 3 (mOf (mBin dAdd (mBin dAdd (mBin dMod (mVar 2) (M.pure (.int 2147483629))) (mBin dMul (mVar 1) (mVar 1))) (M.pure (.int 1)))))
    (mSeq (mIf (mTest (mBin dLt (mVar 2) (mBin dPow (M.pure (.int 10)) (M.pure (.int 18))))) (mSet 2 (mOf (M.pure (.int 0)))) (mNx))
    (mRet (mLst (mCons (mVar 2) (mCons (mVar 3) (mNil)))))))) (mNx))
    (mRet (mLst (mCons (M.pure (.int 0)) (mCons (mBin dAdd (mBin dMul (mVar 1) (mVar 1)) (M.pure (.int 11))) (mNil)))))
noncomputable def fn__law_stream : List D → Rf := runF none 4 fb__law_stream
noncomputable def fb__law_take : M Fl :=
  mSeq (mIf (mTest (mBin dEq (mPeek 0 (M.pure (.int 0))) (M.pure (.int 0)))) (mSeq (mPutAt 0 (mBin dMod (mBin dAdd (mBin dMul (mPeek 0 (M.pure (.int 1))) (M.pure (.int 48271))) (M.pure (.int 12345))) (M.pure (.int 2147483647))) (M.pure (.int 1)))
    (mRet (mOf (mBin dMod (mBin dMod (mBin dMul (mPeek 0 (M.pure (.int 1))) (mPeek 0 (M.pure (.int 1)))) (M.pure (.int 2147483629))) (mVar 1))))) (mNx))
    (mSeq (mSet 2 (mOf (mBin dMod (mPeek 0 (M.pure (.int 0))) (mVar 1))))
    (mSeq (mPutAt 0 (mBin dDiv (mPeek 0 (M.pure (.int 0))) (mVar 1)) (M.pure (.int 0)))
    (mRet (mMove 2))))
noncomputable def fn__law_take : List D → Rf := runF (some 0) 3 fb__law_take
noncomputable def fb__law_fraction : M Fl :=
  mSeq (mSet 2 (mOf (mCall dAbs (mCons (mVar 0) (mNil)))))
    (mSeq (mSet 3 (mOf (mVar 1)))
    (mSeq (mWh (mTest (mBin dGt (mVar 3) (M.pure (.int 0)))) (mPar 2 3 (mCons (mVar 3) (mCons (mBin dMod (mVar 2) (mVar 3)) (mNil)))))
    (mRet (mOf (mTup (mCons (mBin dDiv (mVar 0) (mVar 2)) (mCons (mBin dDiv (mVar 1) (mVar 2)) (mNil))))))))
noncomputable def fn__law_fraction : List D → Rf := runF none 4 fb__law_fraction
noncomputable def fb__law_plus : M Fl :=
  mRet (mCallN 2 none fn__law_fraction (xV (mBin dAdd (mBin dMul (mBin dIx (mVar 0) (M.pure (.int 0))) (mBin dIx (mVar 1) (M.pure (.int 1)))) (mBin dMul (mBin dIx (mVar 1) (M.pure (.int 0))) (mBin dIx (mVar 0) (M.pure (.int 1))))) (xV (mBin dMul (mBin dIx (mVar 0) (M.pure (.int 1))) (mBin dIx (mVar 1) (M.pure (.int 1)))) (xNil))))
noncomputable def fn__law_plus : List D → Rf := runF none 2 fb__law_plus
noncomputable def fb__law_over : M Fl :=
  mSeq (mIf (mTest (mBin dLt (mBin dIx (mVar 1) (M.pure (.int 0))) (M.pure (.int 0)))) (mRet (mCallN 2 none fn__law_fraction (xV (mBin dSub (M.pure (.int 0)) (mBin dMul (mBin dIx (mVar 0) (M.pure (.int 0))) (mBin dIx (mVar 1) (M.pure (.int 1))))) (xV (mBin dSub (M.pure (.int 0)) (mBin dMul (mBin dIx (mVar 0) (M.pure (.int 1))) (mBin dIx (mVar 1) (M.pure (.int 0))))) (xNil))))) (mNx))
    (mRet (mCallN 2 none fn__law_fraction (xV (mBin dMul (mBin dIx (mVar 0) (M.pure (.int 0))) (mBin dIx (mVar 1) (M.pure (.int 1)))) (xV (mBin dMul (mBin dIx (mVar 0) (M.pure (.int 1))) (mBin dIx (mVar 1) (M.pure (.int 0)))) (xNil)))))
noncomputable def fn__law_over : List D → Rf := runF none 2 fb__law_over
noncomputable def fb__law_times : M Fl :=
  mRet (mCallN 2 none fn__law_fraction (xV (mBin dMul (mBin dIx (mVar 0) (M.pure (.int 0))) (mBin dIx (mVar 1) (M.pure (.int 0)))) (xV (mBin dMul (mBin dIx (mVar 0) (M.pure (.int 1))) (mBin dIx (mVar 1) (M.pure (.int 1)))) (xNil))))
noncomputable def fn__law_times : List D → Rf := runF none 2 fb__law_times
end Std
namespace Std
open PySem L2 Dt
/-! ### the greatest divisor -/
theorem common_turn (a b : Int) : mWhN (mTest (mBin dNe (mVar 1) (M.pure (.int 0)))) (mPar 0 1 (mCons (mVar 1) (mCons (mBin dMod (mVar 0) (mVar 1)) (mNil)))) 1 [.fz (.int a), .fz (.int 0)] = .ok .nx [.fz (.int a), .fz (.int 0)] := by
  unfold mWhN
  simp
theorem common_loop : ∀ (n a b : Nat), b < n → mWhN (mTest (mBin dNe (mVar 1) (M.pure (.int 0)))) (mPar 0 1 (mCons (mVar 1) (mCons (mBin dMod (mVar 0) (mVar 1)) (mNil)))) n [.fz (.int a), .fz (.int b)] = .ok .nx [.fz (.int (Nat.gcd a b : Nat)), .fz (.int 0)]
  | 0, a, b, h => by omega
  | n + 1, a, 0, h => by
    unfold mWhN
    simp
  | n + 1, a, b + 1, h => by
    unfold mWhN
    have e : ((a : Int).fmod ((b + 1 : Nat) : Int)) = ((a % (b + 1) : Nat) : Int) := by
      rw [Int.fmod_eq_emod_of_nonneg _ (by omega)]; rfl
    have hb : ((b + 1 : Nat) : Int) ≠ 0 := by omega
    have ih := common_loop n (b + 1) (a % (b + 1)) (by have := Nat.mod_lt a (show 0 < b + 1 by omega); omega)
    have hz : decide (((b + 1 : Nat) : Int) = 0) = false := decide_eq_false hb
    simp only [bind_ap, test_ap, bin_ap, var_ap, List.getElem?_cons_succ, List.getElem?_cons_zero, ok_bnd, pure_ap, opt_some, dNe_i, hz, Bool.not_false, asBl_bl, par_ap, cons_ap, nil_ap, dMod_i, modOk_of hb, if_true, List.set_cons_zero, List.set_cons_succ, e]
    rw [ih]
    congr 4
    rw [Nat.gcd_comm a (b + 1), Nat.gcd_rec (b + 1) a, Nat.gcd_comm]
theorem common_ok (a b : Nat) : fn_common [.int a, .int b] = .ok (.int (Nat.gcd a b : Nat)) false .non := by
  have h := common_loop (b + 1) a b (by omega)
  have hw := mWh_eq (t := mTest (mBin dNe (mVar 1) (M.pure (.int 0)))) (b := mPar 0 1 (mCons (mVar 1) (mCons (mBin dMod (mVar 0) (mVar 1)) (mNil)))) (n := b + 1) (ρ := [.fz (.int a), .fz (.int b)]) (by rw [h]; intro z; cases z)
  rw [h] at hw
  unfold fn_common runF fb_common
  simp [hw]
end Std
namespace Std
open PySem L2 Dt
/-! ### fractions -/
def fq (q : Rat) : D := .tup [.int q.num, .int (q.den : Int)]
theorem num_div (a b : Int) : (Rat.divInt a b).num = b.sign * a / ((Nat.gcd a.natAbs b.natAbs : Nat) : Int) := by
  rw [Rat.num_divInt, Int.gcd, Nat.gcd_comm]
theorem den_div {a b : Int} (hb : b ≠ 0) : (Rat.divInt a b).den = b.natAbs / Nat.gcd a.natAbs b.natAbs := by
  rw [Rat.den_divInt, if_neg hb, Int.gcd, Nat.gcd_comm]
theorem frac_pair {a b : Int} (hb : b ≠ 0) (s : Int) (hs : s = if b < 0 then 0 - ((Nat.gcd a.natAbs b.natAbs : Nat) : Int) else ((Nat.gcd a.natAbs b.natAbs : Nat) : Int)) :
    D.tup [.int (a.fdiv s), .int (b.fdiv s)] = fq (Rat.divInt a b) := by
  have hg : 0 < Nat.gcd a.natAbs b.natAbs := Nat.gcd_pos_of_pos_right _ (by omega)
  have da : ((Nat.gcd a.natAbs b.natAbs : Nat) : Int) ∣ a := Int.ofNat_dvd_left.mpr (Nat.gcd_dvd_left _ _)
  have db : ((Nat.gcd a.natAbs b.natAbs : Nat) : Int) ∣ b := Int.ofNat_dvd_left.mpr (Nat.gcd_dvd_right _ _)
  unfold fq
  rw [num_div, den_div hb, Int.natCast_ediv]
  generalize hG : ((Nat.gcd a.natAbs b.natAbs : Nat) : Int) = g at *
  by_cases h : b < 0
  · rw [if_pos h] at hs
    have es : s = -g := by omega
    rw [es, Int.fdiv_eq_ediv_of_dvd (Int.neg_dvd.mpr da), Int.fdiv_eq_ediv_of_dvd (Int.neg_dvd.mpr db), Int.sign_eq_neg_one_of_neg h, Int.ediv_neg, Int.ediv_neg]
    have e1 : (-1 * a) / g = -(a / g) := by
      rw [show -1 * a = -a by omega, Int.neg_ediv_of_dvd da]
    have e2 : ((b.natAbs : Nat) : Int) / g = -(b / g) := by
      rw [show ((b.natAbs : Nat) : Int) = -b by omega, Int.neg_ediv_of_dvd db]
    rw [e1, e2]
  · rw [if_neg h] at hs
    rw [hs, Int.fdiv_eq_ediv_of_dvd da, Int.fdiv_eq_ediv_of_dvd db, Int.sign_eq_one_of_pos (by omega)]
    rw [show ((b.natAbs : Nat) : Int) = b by omega, show (1 : Int) * a = a by omega]
theorem fraction_ok {a b : Int} (hb : b ≠ 0) (hs : b.natAbs < 2 ^ 8990) : fn_fraction [.int a, .int b] = .ok (fq (Rat.divInt a b)) false .non := by
  have hg : 0 < Nat.gcd a.natAbs b.natAbs := Nat.gcd_pos_of_pos_right _ (by omega)
  have hl : Nat.gcd a.natAbs b.natAbs < 2 ^ 8990 := Nat.lt_of_le_of_lt (Nat.gcd_le_right _ (by omega)) hs
  unfold fn_fraction runF fb_fraction
  by_cases h : b < 0
  · rw [← frac_pair (a := a) hb (-((Nat.gcd a.natAbs b.natAbs : Nat) : Int)) (by rw [if_pos h]; omega)]
    have hd : ∀ x : Int, divOk x (-((Nat.gcd a.natAbs b.natAbs : Nat) : Int)) = true := fun x => divOk_of (b := 8990) (by omega) (by omega) (by decide)
    simp [hb, common_ok, h, hd]
  · rw [← frac_pair (a := a) hb ((Nat.gcd a.natAbs b.natAbs : Nat) : Int) (by rw [if_neg h])]
    have hd : ∀ x : Int, divOk x ((Nat.gcd a.natAbs b.natAbs : Nat) : Int) = true := fun x => divOk_of (b := 8990) (by omega) (by omega) (by decide)
    simp [hb, common_ok, h, hd]
theorem fraction_nought {a : Int} : fn_fraction [.int a, .int 0] = .rz "NoFraction" := by
  unfold fn_fraction runF fb_fraction
  simp
end Std
namespace Std
open PySem L2 Dt
/-! ### sizes -/
def Sz (n : Nat) (q : Rat) : Prop := q.num.natAbs < 2 ^ n ∧ q.den < 2 ^ n
theorem Sz.mono {n m : Nat} {q : Rat} (h : Sz n q) (l : n ≤ m) : Sz m q :=
  ⟨Nat.lt_of_lt_of_le h.1 (Nat.pow_le_pow_right (by decide) l), Nat.lt_of_lt_of_le h.2 (Nat.pow_le_pow_right (by decide) l)⟩
theorem den_pos (q : Rat) : 0 < q.den := Nat.pos_of_ne_zero q.den_nz
theorem sz_div {a b : Int} {n : Nat} (hb : b ≠ 0) (h1 : a.natAbs < 2 ^ n) (h2 : b.natAbs < 2 ^ n) : Sz n (Rat.divInt a b) := by
  constructor
  · rw [num_div]
    refine Nat.lt_of_le_of_lt ?_ h1
    have hg : 0 < Nat.gcd a.natAbs b.natAbs := Nat.gcd_pos_of_pos_right _ (by omega)
    rw [Int.natAbs_ediv_of_dvd]
    · refine Nat.le_trans (Nat.div_le_self _ _) ?_
      rw [Int.natAbs_mul, Int.natAbs_sign_of_ne_zero hb, Nat.one_mul]; exact Nat.le_refl _
    · exact Int.dvd_mul_of_dvd_right (Int.ofNat_dvd_left.mpr (Nat.gcd_dvd_left _ _))
  · rw [den_div hb]
    exact Nat.lt_of_le_of_lt (Nat.div_le_self _ _) h2
theorem nat_pow_two (n : Nat) : (0 : Nat) < 2 ^ n := Nat.pow_pos (by decide)
theorem mul_lt_two {a b n m : Nat} (ha : a < 2 ^ n) (hb : b < 2 ^ m) : a * b < 2 ^ (n + m) := by
  rw [Nat.pow_add]; exact Nat.mul_lt_mul'' ha hb
theorem fq_inj {p q : Rat} (h : fq p = fq q) : p = q := by
  unfold fq at h
  injection h with h
  injection h with h1 h
  injection h with h2 h
  injection h1 with h1
  injection h2 with h2
  exact Rat.ext h1 (by omega)
/-! ### sums, products -/
theorem add_div (p q : Rat) : Rat.divInt (p.num * (q.den : Int) + q.num * (p.den : Int)) ((p.den : Int) * (q.den : Int)) = p + q := by
  rw [Rat.add_def', ← Int.natCast_mul, Rat.divInt_ofNat]
theorem sub_div (p q : Rat) : Rat.divInt (p.num * (q.den : Int) - q.num * (p.den : Int)) ((p.den : Int) * (q.den : Int)) = p - q := by
  rw [Rat.sub_def', ← Int.natCast_mul, Rat.divInt_ofNat]
theorem mul_div (p q : Rat) : Rat.divInt (p.num * q.num) ((p.den : Int) * (q.den : Int)) = p * q := by
  rw [Rat.mul_def', ← Int.natCast_mul, Rat.divInt_ofNat]
theorem div_div (p q : Rat) : Rat.divInt (p.num * (q.den : Int)) ((p.den : Int) * q.num) = p / q := by
  rw [Rat.div_def, Rat.inv_def, ← Rat.divInt_mul_divInt, Rat.num_divInt_den]
theorem sz_add {n m : Nat} {p q : Rat} (hp : Sz n p) (hq : Sz m q) : Sz (n + m + 1) (p + q) := by
  rw [← add_div]
  have d1 := den_pos p
  have d2 := den_pos q
  have h0 : ((p.den : Int) * (q.den : Int)) ≠ 0 := Int.mul_ne_zero (by omega) (by omega)
  have m1 := mul_lt_two hp.1 hq.2
  have m2 := mul_lt_two hq.1 hp.2
  have m3 := mul_lt_two hp.2 hq.2
  refine sz_div h0 ?_ ?_
  · refine Nat.lt_of_le_of_lt (Int.natAbs_add_le _ _) ?_
    rw [Int.natAbs_mul, Int.natAbs_mul, Int.natAbs_natCast, Int.natAbs_natCast, Nat.pow_succ]
    rw [Nat.add_comm m n] at m2
    omega
  · rw [Int.natAbs_mul, Int.natAbs_natCast, Int.natAbs_natCast, Nat.pow_succ]
    omega
theorem sz_neg {n : Nat} {p : Rat} (hp : Sz n p) : Sz n (-p) := by
  constructor
  · rw [Rat.neg_num, Int.natAbs_neg]; exact hp.1
  · rw [Rat.neg_den]; exact hp.2
theorem sz_sub {n m : Nat} {p q : Rat} (hp : Sz n p) (hq : Sz m q) : Sz (n + m + 1) (p - q) := by
  rw [Rat.sub_eq_add_neg]; exact sz_add hp (sz_neg hq)
theorem sz_mul {n m : Nat} {p q : Rat} (hp : Sz n p) (hq : Sz m q) : Sz (n + m) (p * q) := by
  rw [← mul_div]
  have d1 := den_pos p
  have d2 := den_pos q
  refine sz_div (Int.mul_ne_zero (by omega) (by omega)) ?_ ?_
  · rw [Int.natAbs_mul]; exact mul_lt_two hp.1 hq.1
  · rw [Int.natAbs_mul, Int.natAbs_natCast, Int.natAbs_natCast]; exact mul_lt_two hp.2 hq.2
theorem sz_quo {n m : Nat} {p q : Rat} (hp : Sz n p) (hq : Sz m q) : Sz (n + m) (p / q) := by
  by_cases h : q.num = 0
  · have : q = 0 := Rat.num_eq_zero.mp h
    subst this
    rw [Rat.div_def, Rat.inv_zero, Rat.mul_zero]
    exact ⟨nat_pow_two _, by
      have h1 := hp.2
      have h2 := den_pos p
      show 1 < 2 ^ (n + m)
      refine Nat.lt_of_le_of_lt (show 1 ≤ p.den from h2) (Nat.lt_of_lt_of_le h1 (Nat.pow_le_pow_right (by decide) (by omega)))⟩
  · rw [← div_div]
    have d1 := den_pos p
    refine sz_div (Int.mul_ne_zero (by omega) h) ?_ ?_
    · rw [Int.natAbs_mul, Int.natAbs_natCast]; exact mul_lt_two hp.1 hq.2
    · rw [Int.natAbs_mul, Int.natAbs_natCast]; exact mul_lt_two hp.2 hq.1
theorem mok {p q : Int} {a b : Nat} (hp : p.natAbs < 2 ^ a) (hq : q.natAbs < 2 ^ b) (h : a + b ≤ 90000000) : mulOk p q = true := mulOk_of hp hq h
theorem nabs_lt {k n : Nat} (h : k < 2 ^ n) : ((k : Nat) : Int).natAbs < 2 ^ n := by rw [Int.natAbs_natCast]; exact h
theorem den_mul {n m : Nat} {p q : Rat} (hp : Sz n p) (hq : Sz m q) (h : n + m ≤ 8990) : ((p.den : Int) * (q.den : Int)) ≠ 0 ∧ ((p.den : Int) * (q.den : Int)).natAbs < 2 ^ 8990 := by
  have d1 := den_pos p
  have d2 := den_pos q
  refine ⟨Int.mul_ne_zero (by omega) (by omega), ?_⟩
  rw [Int.natAbs_mul, Int.natAbs_natCast, Int.natAbs_natCast]
  exact Nat.lt_of_lt_of_le (mul_lt_two hp.2 hq.2) (Nat.pow_le_pow_right (by decide) h)
theorem plus_ok {n m : Nat} {p q : Rat} (hp : Sz n p) (hq : Sz m q) (h : n + m ≤ 8990) : fn_plus [fq p, fq q] = .ok (fq (p + q)) false .non := by
  have h1 := mok hp.1 (nabs_lt hq.2) (by omega)
  have h2 := mok hq.1 (nabs_lt hp.2) (by omega)
  have h3 := mok (nabs_lt hp.2) (nabs_lt hq.2) (by omega)
  obtain ⟨h4, h5⟩ := den_mul hp hq h
  unfold fn_plus runF fb_plus
  simp [fq, h1, h2, h3]
  rw [fraction_ok h4 h5, add_div]
  rfl
theorem less_ok {n m : Nat} {p q : Rat} (hp : Sz n p) (hq : Sz m q) (h : n + m ≤ 8990) : fn_less [fq p, fq q] = .ok (fq (p - q)) false .non := by
  have h1 := mok hp.1 (nabs_lt hq.2) (by omega)
  have h2 := mok hq.1 (nabs_lt hp.2) (by omega)
  have h3 := mok (nabs_lt hp.2) (nabs_lt hq.2) (by omega)
  obtain ⟨h4, h5⟩ := den_mul hp hq h
  unfold fn_less runF fb_less
  simp [fq, h1, h2, h3]
  rw [fraction_ok h4 h5, sub_div]
  rfl
theorem times_ok {n m : Nat} {p q : Rat} (hp : Sz n p) (hq : Sz m q) (h : n + m ≤ 8990) : fn_times [fq p, fq q] = .ok (fq (p * q)) false .non := by
  have h1 := mok hp.1 hq.1 (by omega)
  have h3 := mok (nabs_lt hp.2) (nabs_lt hq.2) (by omega)
  obtain ⟨h4, h5⟩ := den_mul hp hq h
  unfold fn_times runF fb_times
  simp [fq, h1, h3]
  rw [fraction_ok h4 h5, mul_div]
  rfl
theorem over_ok {n m : Nat} {p q : Rat} (hp : Sz n p) (hq : Sz m q) (h : n + m ≤ 8990) (h0 : q ≠ 0) : fn_over [fq p, fq q] = .ok (fq (p / q)) false .non := by
  have h1 := mok hp.1 (nabs_lt hq.2) (by omega)
  have h3 := mok (nabs_lt hp.2) hq.1 (by omega)
  have d1 := den_pos p
  have hn : q.num ≠ 0 := fun z => h0 (Rat.num_eq_zero.mp z)
  have h4 : ((p.den : Int) * q.num) ≠ 0 := Int.mul_ne_zero (by omega) hn
  have h5 : ((p.den : Int) * q.num).natAbs < 2 ^ 8990 := by
    rw [Int.natAbs_mul, Int.natAbs_natCast]
    exact Nat.lt_of_lt_of_le (mul_lt_two hp.2 hq.1) (Nat.pow_le_pow_right (by decide) h)
  unfold fn_over runF fb_over
  simp [fq, h1, h3]
  rw [fraction_ok h4 h5, div_div]
  rfl
theorem over_nought {n : Nat} {p : Rat} (hp : Sz n p) (h : n ≤ 8990) : fn_over [fq p, fq 0] = .rz "NoFraction" := by
  have h1 : mulOk p.num 1 = true := mok (b := 1) hp.1 (by decide) (by omega)
  have h3 : mulOk (p.den : Int) 0 = true := mok (b := 1) (nabs_lt hp.2) (by decide) (by omega)
  unfold fn_over runF fb_over
  simp [fq, h1, h3, fraction_nought]
theorem is_less_ok {n m : Nat} {p q : Rat} (hp : Sz n p) (hq : Sz m q) (h : n + m ≤ 8990) : fn_is_less [fq p, fq q] = .ok (.bl (decide (p < q))) false .non := by
  have h1 := mok hp.1 (nabs_lt hq.2) (by omega)
  have h2 := mok hq.1 (nabs_lt hp.2) (by omega)
  unfold fn_is_less runF fb_is_less
  have e : decide (p < q) = decide (p.num * (q.den : Int) < q.num * (p.den : Int)) := decide_eq_decide.mpr (Rat.lt_iff p q)
  rw [e]
  simp [fq, h1, h2]
end Std
namespace Std
open PySem L2 Dt
/-! ### the stream of draws -/
def Strm (s : D) : Prop := ∃ c m : Int, s = .lst [.int c, .int m] ∧ 0 ≤ c ∧ 0 ≤ m ∧ m < 2 ^ 40
theorem take_ok {s : D} {most : Int} (h : Strm s) (h0 : 0 < most) (h1 : most < 2 ^ 30) : ∃ d s', fn__law_take [s, .int most] = .ok (.int d) false s' ∧ Strm s' ∧ 0 ≤ d ∧ d < most := by
  obtain ⟨c, m, rfl, hc, hm0, hm1⟩ := h
  have hn : most ≠ 0 := by omega
  unfold fn__law_take runF fb__law_take
  by_cases z : c = 0
  · subst z
    have k1 : mulOk m 48271 = true := mok (a := 40) (b := 20) (by omega) (by decide) (by decide)
    have k2 : mulOk ((m * 48271 + 12345).fmod 2147483647) ((m * 48271 + 12345).fmod 2147483647) = true := by
      rw [Int.fmod_eq_emod_of_nonneg _ (by decide)]
      exact mok (a := 40) (b := 40) (by omega) (by omega) (by decide)
    refine ⟨(((m * 48271 + 12345).fmod 2147483647) * ((m * 48271 + 12345).fmod 2147483647)).fmod 2147483629 |>.fmod most, .lst [.int 0, .int ((m * 48271 + 12345).fmod 2147483647)], by simp [k1, k2, hn], ⟨0, _, rfl, by decide, ?_, ?_⟩, ?_, ?_⟩
    · rw [Int.fmod_eq_emod_of_nonneg _ (by decide)]; omega
    · rw [Int.fmod_eq_emod_of_nonneg _ (by decide)]; omega
    · rw [Int.fmod_eq_emod_of_nonneg _ (show (0 : Int) ≤ most by omega)]; exact Int.emod_nonneg _ hn
    · rw [Int.fmod_eq_emod_of_nonneg _ (show (0 : Int) ≤ most by omega)]; exact Int.emod_lt_of_pos _ h0
  · have k1 : divOk c most = true := divOk_of (b := 31) hn (by omega) (by decide)
    refine ⟨c.fmod most, .lst [.int (c.fdiv most), .int m], by simp [z, k1, hn], ⟨c.fdiv most, m, rfl, ?_, hm0, hm1⟩, ?_, ?_⟩
    · rw [Int.fdiv_eq_ediv_of_nonneg _ (by omega)]; exact Int.ediv_nonneg hc (by omega)
    · rw [Int.fmod_eq_emod_of_nonneg _ (by omega)]; exact Int.emod_nonneg _ hn
    · rw [Int.fmod_eq_emod_of_nonneg _ (by omega)]; exact Int.emod_lt_of_pos _ h0
theorem atI_lt {α : Type} {xs : List α} {k : Int} (h0 : 0 ≤ k) (h1 : k < xs.length) : ∃ x, L2.atI xs k = some x ∧ x ∈ xs := by
  obtain ⟨j, rfl⟩ : ∃ j : Nat, k = (j : Int) := ⟨k.toNat, by omega⟩
  have hj : j < xs.length := by omega
  exact ⟨xs[j], atI_nat (List.getElem?_eq_getElem hj), List.getElem_mem hj⟩
theorem stream_ok {ns : List Int} {k : Int} (h0 : 0 ≤ k) (h1 : k < 1000) : ∃ s, fn__law_stream [.scr ns, .int k] = .ok s true .non ∧ Strm s := by
  have k1 : mulOk k k = true := mok (a := 20) (b := 20) (by omega) (by omega) (by decide)
  unfold fn__law_stream runF fb__law_stream
  by_cases h : k < ns.length
  · obtain ⟨x, e, _⟩ := atI_lt h0 h
    have hp : powOk 10 18 = true := by decide
    have hk : k * k ≤ 1000 * 1000 := Int.mul_le_mul (by omega) (by omega) h0 (by omega)
    have hk0 : 0 ≤ k * k := Int.mul_nonneg h0 h0
    have hm : 0 ≤ x.fmod 2147483629 ∧ x.fmod 2147483629 < 2147483629 := by
      rw [Int.fmod_eq_emod_of_nonneg _ (by decide)]
      exact ⟨Int.emod_nonneg _ (by decide), Int.emod_lt_of_pos _ (by decide)⟩
    by_cases hx : x < 1000000000000000000
    · simp [h, e, k1, hp, hx]
      exact ⟨0, _, rfl, by decide, by omega, by omega⟩
    · simp [h, e, k1, hp, hx]
      exact ⟨x, _, rfl, by omega, by omega, by omega⟩
  · have hk : k * k ≤ 1000 * 1000 := Int.mul_le_mul (by omega) (by omega) h0 (by omega)
    have hk0 : 0 ≤ k * k := Int.mul_nonneg h0 h0
    simp [h, k1]
    exact ⟨0, _, rfl, by decide, by omega, by omega⟩
end Std
namespace Dt
open PySem L2
/-! ### equality of data -/
/-- laid plainly, at most n deep -/
def okD : Nat → D → Bool
  | _, .non => true
  | _, .bl _ => true
  | _, .int _ => true
  | _, .str x => PyData.strOk x
  | 0, _ => false
  | n + 1, .lst xs => xs.all (okD n)
  | n + 1, .tup xs => xs.all (okD n)
  | _ + 1, .scr _ => true
theorem okD_all {n : Nat} (ih : ∀ d, okD n d = true → d.py.canLay0 = true ∧ d.py.depth ≤ n) : ∀ xs : List D, xs.all (okD n) = true → PyData.canLayAll0 (D.pys xs) = true ∧ PyData.depthAll (D.pys xs) ≤ n
  | [], _ => ⟨by simp [D.pys, PyData.canLayAll0], by simp [D.pys, PyData.depthAll]⟩
  | x :: xs, h => by
    rw [List.all_cons, Bool.and_eq_true] at h
    obtain ⟨a1, a2⟩ := ih x h.1
    obtain ⟨b1, b2⟩ := okD_all ih xs h.2
    refine ⟨by simp [D.pys, PyData.canLayAll0, a1, b1], ?_⟩
    simp only [D.pys, PyData.depthAll]
    omega
theorem canLay_ints : ∀ ns : List Int, PyData.canLayAll0 (ns.map PyData.int) = true
  | [] => by simp [PyData.canLayAll0]
  | n :: ns => by simp [PyData.canLayAll0, PyData.canLay0, canLay_ints ns]
theorem depth_ints : ∀ ns : List Int, PyData.depthAll (ns.map PyData.int) = 0
  | [] => by simp [PyData.depthAll]
  | n :: ns => by simp [PyData.depthAll, PyData.depth, depth_ints ns]
theorem okD_ok : ∀ (n : Nat) (d : D), okD n d = true → d.py.canLay0 = true ∧ d.py.depth ≤ n
  | 0, .non, _ => by simp [D.py, PyData.canLay0, PyData.depth]
  | 0, .bl _, _ => by simp [D.py, PyData.canLay0, PyData.depth]
  | 0, .int _, _ => by simp [D.py, PyData.canLay0, PyData.depth]
  | 0, .str x, h => by
    have h' : PyData.strOk x = true := h
    simp [D.py, PyData.canLay0, PyData.depth, h']
  | 0, .lst _, h => by cases h
  | 0, .tup _, h => by cases h
  | 0, .scr _, h => by cases h
  | n + 1, .non, _ => by simp [D.py, PyData.canLay0, PyData.depth]
  | n + 1, .bl _, _ => by simp [D.py, PyData.canLay0, PyData.depth]
  | n + 1, .int _, _ => by simp [D.py, PyData.canLay0, PyData.depth]
  | n + 1, .str x, h => by
    have h' : PyData.strOk x = true := h
    simp [D.py, PyData.canLay0, PyData.depth, h']
  | n + 1, .lst xs, h => by
    obtain ⟨a, b⟩ := okD_all (okD_ok n) xs h
    refine ⟨by simp [D.py, PyData.canLay0, a], ?_⟩
    simp only [D.py, PyData.depth]
    omega
  | n + 1, .tup xs, h => by
    obtain ⟨a, b⟩ := okD_all (okD_ok n) xs h
    refine ⟨by simp [D.py, PyData.canLay0, a], ?_⟩
    simp only [D.py, PyData.depth]
    omega
  | n + 1, .scr ns, _ => by
    have h1 := canLay_ints ns
    have h2 := depth_ints ns
    refine ⟨by simp [D.py, PyData.canLay0, h1], ?_⟩
    simp only [D.py, PyData.depth]
    omega
theorem shp_of {n : Nat} {d : D} (h : okD n d = true) (hn : n ≤ 64) : shp d = true := by
  obtain ⟨a, b⟩ := okD_ok n d h
  show (d.py.canLay0 && decide (d.py.depth ≤ 64)) = true
  rw [a, Bool.true_and, decide_eq_true_iff]
  omega
/-- without bools: equal is the same -/
def plD : Nat → D → Bool
  | _, .non => true
  | _, .int _ => true
  | _, .str _ => true
  | n + 1, .lst xs => xs.all (plD n)
  | n + 1, .tup xs => xs.all (plD n)
  | _, _ => false
theorem eqv_all {n : Nat} (ih : ∀ d e, plD n d = true → plD n e = true → (PyData.eqv d.py e.py = true ↔ d = e)) : ∀ xs ys : List D, xs.all (plD n) = true → ys.all (plD n) = true → (PyData.eqvAll (D.pys xs) (D.pys ys) = true ↔ xs = ys)
  | [], [], _, _ => by simp [D.pys, PyData.eqvAll]
  | [], _ :: _, _, _ => by simp [D.pys, PyData.eqvAll]
  | _ :: _, [], _, _ => by simp [D.pys, PyData.eqvAll]
  | x :: xs, y :: ys, h, k => by
    rw [List.all_cons, Bool.and_eq_true] at h k
    have h1 := ih x y h.1 k.1
    have h2 := eqv_all ih xs ys h.2 k.2
    simp only [D.pys, PyData.eqvAll, Bool.and_eq_true, h1, h2, List.cons.injEq]
theorem eqv_iff : ∀ (n : Nat) (d e : D), plD n d = true → plD n e = true → (PyData.eqv d.py e.py = true ↔ d = e) := by
  intro n
  induction n with
  | zero =>
    intro d e h k
    cases d <;> cases e <;> first | (simp [D.py, PyData.eqv]; done) | (exact absurd h Bool.false_ne_true) | (exact absurd k Bool.false_ne_true)
  | succ n ih =>
    intro d e h k
    cases d with
    | bl _ => cases h
    | scr _ => cases h
    | lst xs =>
      cases e with
      | lst ys =>
        have := eqv_all ih xs ys h k
        simp only [D.py, PyData.eqv, this, D.lst.injEq]
      | bl _ => cases k
      | scr _ => cases k
      | _ => simp [D.py, PyData.eqv]
    | tup xs =>
      cases e with
      | tup ys =>
        have := eqv_all ih xs ys h k
        simp only [D.py, PyData.eqv, this, D.tup.injEq]
      | bl _ => cases k
      | scr _ => cases k
      | _ => simp [D.py, PyData.eqv]
    | _ =>
      cases e with
      | bl _ => cases k
      | scr _ => cases k
      | _ => simp [D.py, PyData.eqv]
/-- data that == tells apart rightly -/
def gdD (d : D) : Prop := okD 20 d = true ∧ plD 20 d = true
theorem dEq_self {d : D} (h : gdD d) : dEq d d = some (.bl true) := by
  have s := shp_of h.1 (by decide)
  have q := (eqv_iff 20 d d h.2 h.2).mpr rfl
  cases d with
  | int i => simp
  | str x => simp
  | _ => simp [dEq, s, q]
theorem dEq_ne {d e : D} (h : gdD d) (k : gdD e) (n : d ≠ e) : dEq d e = some (.bl false) := by
  have s := shp_of h.1 (by decide)
  have s2 := shp_of k.1 (by decide)
  have q : PyData.eqv d.py e.py = false := by
    cases z : PyData.eqv d.py e.py with
    | false => rfl
    | true => exact absurd ((eqv_iff 20 d e h.2 k.2).mp z) n
  unfold dEq
  split
  · rename_i i j
    have : i ≠ j := fun z => n (by rw [z])
    simp [this]
  · rename_i i j
    have : i ≠ j := fun z => n (by rw [z])
    simp [this]
  · rw [if_pos ⟨s, s2⟩, q]
theorem dNe_not {d e : D} {k : Bool} (h : dEq d e = some (.bl k)) : dNe d e = some (.bl (!k)) := by
  cases d <;> cases e <;> simp only [dEq, dNe] at h ⊢ <;> first | (injection h with h; injection h with h; rw [h]; done) | (split at h <;> first | (injection h with h; injection h with h; rename_i hh; rw [if_pos hh, h]) | cases h)
theorem dNe_self {d : D} (h : gdD d) : dNe d d = some (.bl false) := dNe_not (dEq_self h)
theorem dNe_ne {d e : D} (h : gdD d) (k : gdD e) (n : d ≠ e) : dNe d e = some (.bl true) := dNe_not (dEq_ne h k n)
end Dt
namespace Dt
section
variable {n : Nat} {i : Int} {k : Bool} {xs : List D}
@[simp] theorem okD_int : okD n (.int i) = true := by cases n <;> rfl
@[simp] theorem okD_non : okD n .non = true := by cases n <;> rfl
@[simp] theorem okD_bl : okD n (.bl k) = true := by cases n <;> rfl
@[simp] theorem okD_lst : okD (n + 1) (.lst xs) = xs.all (okD n) := rfl
@[simp] theorem okD_tup : okD (n + 1) (.tup xs) = xs.all (okD n) := rfl
@[simp] theorem plD_int : plD n (.int i) = true := by cases n <;> rfl
@[simp] theorem plD_non : plD n .non = true := by cases n <;> rfl
@[simp] theorem plD_lst : plD (n + 1) (.lst xs) = xs.all (plD n) := rfl
@[simp] theorem plD_tup : plD (n + 1) (.tup xs) = xs.all (plD n) := rfl
theorem dEq_dec [DecidableEq D] {d e : D} (h : gdD d) (k : gdD e) : dEq d e = some (.bl (decide (d = e))) := by
  by_cases q : d = e
  · subst q; rw [dEq_self h]; simp
  · rw [dEq_ne h k q]; simp [q]
end
end Dt
namespace Std
open PySem L2 Dt
theorem gd_fq (q : Rat) : gdD (fq q) := ⟨rfl, rfl⟩
@[simp] theorem eq_fq {p q : Rat} : dEq (fq p) (fq q) = some (.bl (decide (p = q))) := by
  by_cases h : p = q
  · subst h; rw [dEq_self (gd_fq p)]; simp
  · rw [dEq_ne (gd_fq p) (gd_fq q) (fun z => h (fq_inj z))]; simp [h]
@[simp] theorem ne_fq {p q : Rat} : dNe (fq p) (fq q) = some (.bl (!decide (p = q))) := dNe_not eq_fq
end Std
namespace Dt
open PySem L2
/-! ### loops -/
section
variable {h : D → Env → Option Env} {b : M Fl} {ρ : Env}
/-- a loop kept by an invariant, left early by a return at most -/
theorem forL_inv : ∀ {xs : List D} {ρ : Env} (I : Nat → Env → Prop) (E : D → Bool → Env → Prop),
    (∀ k (hk : k < xs.length) ρ, I k ρ → ∃ ρ1 fl ρ', h xs[k] ρ = some ρ1 ∧ b ρ1 = .ok fl ρ' ∧ ((fl = .nx ∨ fl = .ct) ∧ I (k + 1) ρ' ∨ ∃ d o, fl = .rt d o ∧ E d o ρ')) → I 0 ρ →
    ∃ fl ρ', mForL h b xs ρ = .ok fl ρ' ∧ (fl = .nx ∧ I xs.length ρ' ∨ ∃ d o, fl = .rt d o ∧ E d o ρ')
  | [], ρ, I, E, _, h0 => ⟨.nx, ρ, rfl, .inl ⟨rfl, h0⟩⟩
  | x :: r, ρ, I, E, hs, h0 => by
    obtain ⟨ρ1, fl, ρ', e1, e2, e3⟩ := hs 0 (by simp) ρ h0
    have e1 : h x ρ = some ρ1 := e1
    rcases e3 with ⟨q, k⟩ | ⟨d, o, q, k⟩
    · obtain ⟨fl2, ρ2, e4, e5⟩ := forL_inv (xs := r) (fun n => I (n + 1)) E (fun k hk ρ hI => hs (k + 1) (by simpa using hk) ρ hI) k
      refine ⟨fl2, ρ2, ?_, e5⟩
      rw [forL_cons, e1]
      rcases q with q | q <;> subst q <;> simp [e2, e4]
    · refine ⟨fl, ρ', ?_, .inr ⟨d, o, q, k⟩⟩
      subst q
      rw [forL_cons, e1]
      simp [e2]
/-- a loop without an early end -/
theorem forL_go {xs : List D} {ρ : Env} (I : Nat → Env → Prop) (hs : ∀ k (hk : k < xs.length) ρ, I k ρ → ∃ ρ1 ρ', h xs[k] ρ = some ρ1 ∧ b ρ1 = .ok .nx ρ' ∧ I (k + 1) ρ') (h0 : I 0 ρ) :
    ∃ ρ', mForL h b xs ρ = .ok .nx ρ' ∧ I xs.length ρ' := by
  obtain ⟨fl, ρ', e, q⟩ := forL_inv (xs := xs) (h := h) (b := b) I (fun _ _ _ => False) (fun k hk ρ hI => by
    obtain ⟨ρ1, ρ', a1, a2, a3⟩ := hs k hk ρ hI
    exact ⟨ρ1, .nx, ρ', a1, a2, .inl ⟨.inl rfl, a3⟩⟩) h0
  rcases q with ⟨q1, q2⟩ | ⟨_, _, _, q⟩
  · subst q1; exact ⟨ρ', e, q2⟩
  · exact q.elim
/-- a loop that looks for the first failing turn and returns there -/
theorem forL_all {xs : List D} {ρ : Env} (I : Env → Prop) (p : D → Bool) (d : D) (o : Bool)
    (hs : ∀ x ∈ xs, ∀ ρ, I ρ → ∃ ρ1 ρ', h x ρ = some ρ1 ∧ b ρ1 = .ok (if p x then .nx else .rt d o) ρ' ∧ I ρ') (h0 : I ρ) :
    ∃ ρ', mForL h b xs ρ = .ok (if xs.all p then .nx else .rt d o) ρ' ∧ I ρ' := by
  induction xs generalizing ρ with
  | nil => exact ⟨ρ, by simp, h0⟩
  | cons x r ih =>
    obtain ⟨ρ1, ρ', e1, e2, e3⟩ := hs x (by simp) ρ h0
    rw [forL_cons, e1]
    cases q : p x with
    | false =>
      rw [q] at e2
      exact ⟨ρ', by simp [e2, q], e3⟩
    | true =>
      rw [q] at e2
      obtain ⟨ρ2, e4, e5⟩ := ih (fun y hy => hs y (List.mem_cons_of_mem _ hy)) e3
      exact ⟨ρ2, by simp [e2, e4, q], e5⟩
theorem rangeD_get {lo hi : Int} {k : Nat} (hk : k < (rangeD lo hi).length) : (rangeD lo hi)[k] = .int (lo + (k : Int)) := by
  have : (rangeD lo hi)[k]? = some (.int (lo + (k : Int))) := by
    have hk' := hk
    rw [rangeD_len] at hk'
    unfold rangeD
    rw [List.getElem?_map, List.getElem?_range hk']
    rfl
  rw [List.getElem?_eq_getElem hk] at this
  exact Option.some.inj this
theorem rangeD_mem {lo hi : Int} {x : D} (h : x ∈ rangeD lo hi) : ∃ i : Int, x = .int i ∧ lo ≤ i ∧ i < hi := by
  unfold rangeD at h
  rw [List.mem_map] at h
  obtain ⟨k, hk, rfl⟩ := h
  rw [List.mem_range] at hk
  exact ⟨_, rfl, by omega, by omega⟩
end
/-! ### list comprehensions -/
inductive All2 {α β : Type} (R : α → β → Prop) : List α → List β → Prop
  | nil : All2 R [] []
  | cons {x : α} {y : β} {xs : List α} {ys : List β} : R x y → All2 R xs ys → All2 R (x :: xs) (y :: ys)
theorem All2.len {α β : Type} {R : α → β → Prop} {xs : List α} {ys : List β} (h : All2 R xs ys) : xs.length = ys.length := by
  induction h with
  | nil => rfl
  | cons _ _ ih => simp [ih]
theorem All2.map_eq {α β : Type} {φ : α → β} {xs : List α} {ys : List β} (h : All2 (fun x y => y = φ x) xs ys) : ys = xs.map φ := by
  induction h with
  | nil => rfl
  | cons e _ ih => rw [List.map_cons, e, ih]
theorem wipeE_nth {ρ : Env} {j : Nat} : ∀ (vs : List Nat), (wipeE ρ vs)[j]? = if j ∈ vs then (ρ[j]?).map (fun _ => Slot.un) else ρ[j]?
  | [] => by simp [wipeE]
  | v :: vs => by
    have ih := wipeE_nth (ρ := ρ) (j := j) vs
    show ((wipeE ρ vs).set v .un)[j]? = _
    by_cases hv : v = j
    · subst hv
      rw [List.getElem?_set_self']
      rw [ih]
      simp
      by_cases q : v ∈ vs <;> simp [q] <;> cases ρ[v]? <;> rfl
    · rw [List.getElem?_set_ne hv, ih]
      have hv2 : ¬ j = v := fun z => hv z.symm
      simp [hv2]
theorem wipe_wipe (ρ : Env) (vs : List Nat) : wipeE (wipeE ρ vs) vs = wipeE ρ vs := by
  apply List.ext_getElem?
  intro j
  rw [wipeE_nth, wipeE_nth]
  split
  · rw [Option.map_map]; rfl
  · rfl
theorem lcL_inv {own : List Nat} {g : D → Env → Option Env} {t : M Bool} {e : M D} (I : Env → Prop) (P : D → D → Prop) : ∀ (ds acc : List D) (ρ : Env),
    (∀ d ∈ ds, ∀ ρ, I ρ → ∃ ρ1 ρ2 y ρ3, g d ρ = some ρ1 ∧ t ρ1 = .ok true ρ2 ∧ e ρ2 = .ok y ρ3 ∧ I (wipeE ρ3 own) ∧ P d y) → I ρ → acc.length + ds.length ≤ 10000 →
    ∃ ys ρ', mLcL own g t e ds acc ρ = .ok (acc ++ ys) ρ' ∧ I ρ' ∧ All2 P ds ys
  | [], acc, ρ, _, h0, _ => ⟨[], ρ, by simp [mLcL], h0, .nil⟩
  | d :: r, acc, ρ, hs, h0, hl => by
    obtain ⟨ρ1, ρ2, y, ρ3, e1, e2, e3, e4, e5⟩ := hs d (by simp) ρ h0
    rw [List.length_cons] at hl
    obtain ⟨ys, ρ', f1, f2, f3⟩ := lcL_inv I P r (acc ++ [y]) (wipeE ρ3 own) (fun d hd => hs d (List.mem_cons_of_mem _ hd)) e4 (by rw [List.length_append]; simp; omega)
    refine ⟨y :: ys, ρ', ?_, f2, .cons e5 f3⟩
    unfold mLcL
    have hz : acc.length < 10000 := by omega
    simp [e1, mNoR, e2, e3, hz, f1]
/-- a comprehension whose element may draw from a stream -/
theorem lc_inv {own : List Nat} {f : M (List D)} {g : D → Env → Option Env} {t : M Bool} {e : M D} {ρ ρ0 : Env} {ds : List D} (I : Env → Prop) (P : D → D → Prop) (hf : f ρ = .ok ds ρ0)
    (hs : ∀ d ∈ ds, ∀ ρ, I ρ → ∃ ρ1 ρ2 y ρ3, g d ρ = some ρ1 ∧ t ρ1 = .ok true ρ2 ∧ e ρ2 = .ok y ρ3 ∧ I (wipeE ρ3 own) ∧ P d y) (h0 : I (wipeE ρ0 own)) (hl : ds.length ≤ 10000) :
    ∃ ys ρ', mLc own f g t e ρ = .ok (.lst ys, true) (wipeE ρ' own) ∧ I ρ' ∧ All2 P ds ys := by
  obtain ⟨ys, ρ', e1, e2, e3⟩ := lcL_inv I P ds [] (wipeE ρ0 own) hs h0 (by simpa using hl)
  refine ⟨ys, ρ', ?_, e2, e3⟩
  unfold mLc
  simp [hf, e1]
/-- a comprehension that changes nothing -/
theorem lc_map {own : List Nat} {f : M (List D)} {g : D → Env → Option Env} {e : M D} {ρ ρ0 : Env} {ds : List D} (φ : D → D) (hf : f ρ = .ok ds ρ0)
    (hs : ∀ d ∈ ds, ∃ ρ1, g d (wipeE ρ0 own) = some ρ1 ∧ e ρ1 = .ok (φ d) ρ1 ∧ wipeE ρ1 own = wipeE ρ0 own) (hl : ds.length ≤ 10000) :
    mLc own f g (M.pure true) e ρ = .ok (.lst (ds.map φ), true) (wipeE ρ0 own) := by
  obtain ⟨ys, ρ', e1, e2, e3⟩ := lc_inv (t := M.pure true) (e := e) (fun ρ => ρ = wipeE ρ0 own) (fun d y => y = φ d) hf (fun d hd ρ hρ => by
    subst hρ
    obtain ⟨ρ1, a1, a2, a3⟩ := hs d hd
    exact ⟨ρ1, ρ1, _, ρ1, a1, rfl, a2, a3, rfl⟩) rfl hl
  subst e2
  rw [e1, e3.map_eq, wipe_wipe]
/-! ### more places -/
section
variable {ρ : Env} {i : Nat} {f : M D} {fs : M (List D)} {xs ys : List D} {fl fh : M (Option Int)} {lo hi : Option Int} {p : Int}
@[simp] theorem part_none : mPart none ρ = .ok none ρ := rfl
@[simp] theorem part_some : mPart (some f) ρ = (f ρ).bnd fun d => M.opt (match d with
    | .int i => some (some i)
    | _ => none) := rfl
@[simp] theorem sl_ap : mSl f fl fh ρ = (f ρ).bnd fun d => M.bind fl fun lo => M.bind fh fun hi => M.opt (dSl d lo hi) := rfl
@[simp] theorem dSl_l : dSl (.lst xs) lo hi = some (.lst (cutD xs lo hi), true) := rfl
@[simp] theorem dSl_t : dSl (.tup xs) lo hi = some (.tup (cutD xs lo hi), false) := rfl
@[simp] theorem revL_ap : mRevL f ρ = (f ρ).bnd fun d => M.opt (match d with
  | .lst xs => some (.lst xs.reverse, true)
  | _ => none) := rfl
@[simp] theorem zip_ap : mZip fs ρ = (fs ρ).bnd fun ds => M.opt (match ds with
  | [.lst xs, .lst ys] => some (List.zipWith (fun x y => D.tup [x, y]) xs ys)
  | _ => none) := rfl
@[simp] theorem enum_ap : mEnum fs ρ = (fs ρ).bnd fun ds => M.opt (match ds with
  | [.lst xs] => some (enumD 0 xs)
  | _ => none) := rfl
@[simp] theorem listOf_ap : mListOf fs ρ = (fs ρ).bnd fun ds => M.opt (match ds with
  | [.lst xs] => some (.lst xs, true)
  | [.tup xs] => some (.lst xs, true)
  | _ => none) := rfl
@[simp] theorem app1_ap : mApp1 i f ρ = (chkL i ρ).bnd fun _ => M.bind f fun d => mUpd i fun ds => if ds.length < 10000 then some (ds ++ [d]) else none := rfl
@[simp] theorem chkL_ap : chkL i ρ = match ρ[i]? with
  | some (.ow (.lst _)) => .ok () ρ
  | some (.io (.lst _)) => .ok () ρ
  | _ => .fail := rfl
@[simp] theorem upd_ap {h : List D → Option (List D)} : mUpd i h ρ = match ρ[i]? with
  | some (.ow (.lst ds)) => match h ds with
    | some ds' => .ok .nx (ρ.set i (.ow (.lst ds')))
    | none => .fail
  | some (.io (.lst ds)) => match h ds with
    | some ds' => .ok .nx (ρ.set i (.io (.lst ds')))
    | none => .fail
  | _ => .fail := rfl
theorem at_last {α : Type} {xs : List α} (h : xs ≠ []) : L2.atI xs (-1) = some (xs.getLast h) := by
  obtain ⟨ys, y, rfl⟩ : ∃ ys y, xs = ys ++ [y] := ⟨xs.dropLast, xs.getLast h, (List.dropLast_concat_getLast h).symm⟩
  rw [L2.atI_last]; simp
theorem long_of {n : Nat} (h : n ≤ 10000) : tooLong n = false := by
  unfold tooLong
  exact decide_eq_false (by omega)
theorem dAdd_l (h : xs.length + ys.length ≤ 10000) : dAdd (.lst xs) (.lst ys) = some (.lst (xs ++ ys)) := by
  show (if tooLong (xs.length + ys.length) = true then none else some (D.lst (xs ++ ys))) = _
  rw [long_of h]; rfl
theorem dMul_l {k : Nat} (h1 : k < 10000) (h2 : xs.length ≤ 1000) : dMul (.lst xs) (.int k) = some (.lst (List.replicate k xs).flatten) := by
  show (if (k : Int) < 10000 ∧ -10000 < (k : Int) ∧ xs.length ≤ 1000 then some (D.lst (List.replicate (k : Int).toNat xs).flatten) else none) = _
  rw [if_pos (by omega)]; rfl
theorem flat_one {α : Type} (x : α) : ∀ k : Nat, (List.replicate k [x]).flatten = List.replicate k x
  | 0 => rfl
  | k + 1 => by rw [List.replicate_succ, List.flatten_cons, flat_one x k]; rfl
theorem cut_butlast : cutD xs none (some (-1)) = xs.dropLast := by
  unfold cutD
  have h1 : HT.sIx xs.length 0 none = 0 := rfl
  have h2 : HT.sIx xs.length xs.length (some (-1)) = xs.length - 1 := by
    show HT.sIx _ _ (some (-1)) = _
    unfold HT.sIx
    simp
    omega
  rw [h1, h2, List.drop_zero, Nat.sub_zero, List.dropLast_eq_take]
theorem cut_lo {k : Nat} : cutD xs none (some (k : Int)) = xs.take k := by
  unfold cutD
  rw [HT.sIx_nat, HT.sIx_none, List.drop_zero, Nat.sub_zero]
  by_cases h : k ≤ xs.length
  · rw [Nat.min_eq_left h]
  · rw [Nat.min_eq_right (by omega), List.take_length, List.take_of_length_le (by omega)]
theorem cut_hi {k : Nat} : cutD xs (some (k : Int)) none = xs.drop k := by
  unfold cutD
  rw [HT.sIx_nat, HT.sIx_none]
  by_cases h : k ≤ xs.length
  · rw [Nat.min_eq_left h, List.take_of_length_le (by rw [List.length_drop]; omega)]
  · rw [Nat.min_eq_right (by omega), List.drop_length, List.drop_of_length_le (by omega)]; simp
theorem cut_last : cutD xs (some (-1)) none = xs.drop (xs.length - 1) := by
  unfold cutD
  have h2 : HT.sIx xs.length 0 (some (-1)) = xs.length - 1 := by
    unfold HT.sIx
    simp
    omega
  rw [h2, HT.sIx_none, List.take_of_length_le (by rw [List.length_drop]; omega)]
end
end Dt
namespace Std
open PySem L2 Dt
/-! ### rows of fractions -/
def fqs (xs : List Rat) : D := .lst (xs.map fq)
def Szs (n : Nat) (xs : List Rat) : Prop := ∀ x ∈ xs, Sz n x
theorem Szs.mono {n m : Nat} {xs : List Rat} (h : Szs n xs) (l : n ≤ m) : Szs m xs := fun x hx => (h x hx).mono l
theorem fq_zero : fq 0 = .tup [.int 0, .int 1] := rfl
theorem fq_one : fq 1 = .tup [.int 1, .int 1] := rfl
theorem sz_zero : Sz 1 0 := ⟨by decide, by decide⟩
theorem sz_one : Sz 1 1 := ⟨by decide, by decide⟩
theorem sz_sum {n : Nat} : ∀ {xs : List Rat} {m : Nat} {a : Rat}, Szs n xs → Sz m a → Sz (m + xs.length * (n + 1)) (xs.foldl (· + ·) a)
  | [], m, a, _, ha => by simpa using ha
  | x :: r, m, a, h, ha => by
    have h1 := sz_add ha (h x (by simp))
    have h2 := sz_sum (xs := r) (fun y hy => h y (List.mem_cons_of_mem _ hy)) h1
    refine h2.mono ?_
    rw [List.length_cons, Nat.succ_mul]; omega
def sumQ (xs : List Rat) : Rat := xs.foldl (· + ·) 0
theorem sz_sumQ {n : Nat} {xs : List Rat} (h : Szs n xs) : Sz (1 + xs.length * (n + 1)) (sumQ xs) := sz_sum h sz_zero
theorem total_loop {n : Nat} : ∀ {xs : List Rat} {m : Nat} {a : Rat} {s t : Slot}, Szs n xs → Sz m a → m + xs.length * (n + 1) ≤ 8990 →
    ∃ t', mForL (gN 2) (mSet 1 (mCallN 2 none fn_plus (xV (mVar 1) (xV (mVar 2) (xNil))))) (xs.map fq) [s, .fz (fq a), t] = .ok .nx [s, .fz (fq (xs.foldl (· + ·) a)), t']
  | [], m, a, s, t, _, _, _ => ⟨t, rfl⟩
  | x :: r, m, a, s, t, h, ha, hl => by
    rw [List.length_cons, Nat.succ_mul] at hl
    have hx := h x (by simp)
    have h1 := sz_add ha hx
    obtain ⟨t', e⟩ := total_loop (xs := r) (s := s) (t := .fz (fq x)) (fun y hy => h y (List.mem_cons_of_mem _ hy)) h1 (by omega)
    refine ⟨t', ?_⟩
    rw [List.map_cons, forL_cons]
    simp [plus_ok ha hx (by omega), e]
theorem total_ok {n : Nat} {xs : List Rat} (h : Szs n xs) (hl : 1 + xs.length * (n + 1) ≤ 8990) : fn_total [fqs xs] = .ok (fq (sumQ xs)) false .non := by
  obtain ⟨t', e⟩ := total_loop (s := .fz (fqs xs)) (t := .un) h sz_zero hl
  unfold fn_total runF fb_total
  unfold fqs at e ⊢
  rw [fq_zero] at e
  simp [e, sumQ]
/-! ### the law's own fractions -/
theorem lawf_loop {u v : Slot} : ∀ (n a b : Nat), b < n → mWhN (mTest (mBin dGt (mVar 3) (M.pure (.int 0)))) (mPar 2 3 (mCons (mVar 3) (mCons (mBin dMod (mVar 2) (mVar 3)) (mNil)))) n [u, v, .fz (.int a), .fz (.int b)] = .ok .nx [u, v, .fz (.int (Nat.gcd a b : Nat)), .fz (.int 0)]
  | 0, a, b, h => by omega
  | n + 1, a, 0, h => by
    unfold mWhN
    simp
  | n + 1, a, b + 1, h => by
    unfold mWhN
    have e : ((a : Int).fmod ((b + 1 : Nat) : Int)) = ((a % (b + 1) : Nat) : Int) := by
      rw [Int.fmod_eq_emod_of_nonneg _ (by omega)]; rfl
    have hb : ((b + 1 : Nat) : Int) ≠ 0 := by omega
    have ih := lawf_loop (u := u) (v := v) n (b + 1) (a % (b + 1)) (by have := Nat.mod_lt a (show 0 < b + 1 by omega); omega)
    have hz : decide ((0 : Int) < ((b + 1 : Nat) : Int)) = true := decide_eq_true (by omega)
    simp only [bind_ap, test_ap, bin_ap, var_ap, List.getElem?_cons_succ, List.getElem?_cons_zero, ok_bnd, pure_ap, opt_some, dGt_i, hz, asBl_bl, par_ap, cons_ap, nil_ap, dMod_i, modOk_of hb, if_true, List.set_cons_zero, List.set_cons_succ, e]
    rw [ih]
    congr 6
    rw [Nat.gcd_comm a (b + 1), Nat.gcd_rec (b + 1) a, Nat.gcd_comm]
theorem lawf_ok {a b : Int} (hb : 0 < b) (hs : b.natAbs < 2 ^ 8990) : fn__law_fraction [.int a, .int b] = .ok (fq (Rat.divInt a b)) false .non := by
  obtain ⟨c, rfl⟩ : ∃ c : Nat, b = (c : Int) := ⟨b.toNat, by omega⟩
  have hc : 0 < c := by omega
  have h := lawf_loop (u := .fz (.int a)) (v := .fz (.int c)) (c + 1) a.natAbs c (by omega)
  have hw := mWh_eq (t := mTest (mBin dGt (mVar 3) (M.pure (.int 0)))) (b := mPar 2 3 (mCons (mVar 3) (mCons (mBin dMod (mVar 2) (mVar 3)) (mNil)))) (n := c + 1) (ρ := [.fz (.int a), .fz (.int c), .fz (.int (a.natAbs : Nat)), .fz (.int c)]) (by rw [h]; intro z; cases z)
  rw [h] at hw
  have hg : 0 < Nat.gcd a.natAbs c := Nat.gcd_pos_of_pos_right _ hc
  have hl : Nat.gcd a.natAbs c < 2 ^ 8990 := Nat.lt_of_le_of_lt (Nat.gcd_le_right _ hc) (by simpa using hs)
  have hd : ∀ x : Int, divOk x ((Nat.gcd a.natAbs c : Nat) : Int) = true := fun x => divOk_of (b := 8990) (by omega) (by omega) (by decide)
  rw [← frac_pair (a := a) (b := (c : Int)) (by omega) ((Nat.gcd a.natAbs c : Nat) : Int) (by rw [if_neg (by omega)]; simp)]
  unfold fn__law_fraction runF fb__law_fraction
  simp [hw, hd]
theorem lawp_ok {n m : Nat} {p q : Rat} (hp : Sz n p) (hq : Sz m q) (h : n + m ≤ 8990) : fn__law_plus [fq p, fq q] = .ok (fq (p + q)) false .non := by
  have h1 := mok hp.1 (nabs_lt hq.2) (by omega)
  have h2 := mok hq.1 (nabs_lt hp.2) (by omega)
  have h3 := mok (nabs_lt hp.2) (nabs_lt hq.2) (by omega)
  obtain ⟨h4, h5⟩ := den_mul hp hq h
  have d1 := den_pos p
  have d2 := den_pos q
  unfold fn__law_plus runF fb__law_plus
  simp [fq, h1, h2, h3]
  rw [lawf_ok (Int.mul_pos (by omega) (by omega)) h5, add_div]
  rfl
theorem lawt_ok {n m : Nat} {p q : Rat} (hp : Sz n p) (hq : Sz m q) (h : n + m ≤ 8990) : fn__law_times [fq p, fq q] = .ok (fq (p * q)) false .non := by
  have h1 := mok hp.1 hq.1 (by omega)
  have h3 := mok (nabs_lt hp.2) (nabs_lt hq.2) (by omega)
  obtain ⟨h4, h5⟩ := den_mul hp hq h
  have d1 := den_pos p
  have d2 := den_pos q
  unfold fn__law_times runF fb__law_times
  simp [fq, h1, h3]
  rw [lawf_ok (Int.mul_pos (by omega) (by omega)) h5, mul_div]
  rfl
theorem neg_divInt (a b : Int) : Rat.divInt (-a) (-b) = Rat.divInt a b := by
  rw [Rat.neg_divInt_neg]
theorem lawo_ok {n m : Nat} {p q : Rat} (hp : Sz n p) (hq : Sz m q) (h : n + m ≤ 8990) (h0 : q ≠ 0) : fn__law_over [fq p, fq q] = .ok (fq (p / q)) false .non := by
  have h1 := mok hp.1 (nabs_lt hq.2) (by omega)
  have h3 := mok (nabs_lt hp.2) hq.1 (by omega)
  have d1 := den_pos p
  have hn : q.num ≠ 0 := fun z => h0 (Rat.num_eq_zero.mp z)
  have h5 : ((p.den : Int) * q.num).natAbs < 2 ^ 8990 := by
    rw [Int.natAbs_mul, Int.natAbs_natCast]
    exact Nat.lt_of_lt_of_le (mul_lt_two hp.2 hq.1) (Nat.pow_le_pow_right (by decide) h)
  unfold fn__law_over runF fb__law_over
  by_cases hz : q.num < 0
  · have hpos : 0 < -((p.den : Int) * q.num) := by
      have : (p.den : Int) * q.num < 0 := Int.mul_neg_of_pos_of_neg (by omega) hz
      omega
    simp [fq, h1, h3, hz]
    rw [lawf_ok hpos (by rw [Int.natAbs_neg]; exact h5), neg_divInt, div_div]
    rfl
  · have hpos : 0 < (p.den : Int) * q.num := Int.mul_pos (by omega) (by omega)
    simp [fq, h1, h3, hz]
    rw [lawf_ok hpos h5, div_div]
    rfl
/-! ### reading rows -/
theorem fqs_inj : ∀ {xs ys : List Rat}, xs.map fq = ys.map fq → xs = ys
  | [], [], _ => rfl
  | [], _ :: _, h => by cases h
  | _ :: _, [], h => by cases h
  | x :: xs, y :: ys, h => by
    rw [List.map_cons, List.map_cons] at h
    injection h with h1 h2
    rw [fq_inj h1, fqs_inj h2]
theorem gd_fqs (xs : List Rat) : gdD (fqs xs) := by
  constructor
  · show (xs.map fq).all (okD 19) = true
    simp [fq]
  · show (xs.map fq).all (plD 19) = true
    simp [fq]
theorem gd_pair (xs : List Rat) (q : Rat) : gdD (.tup [fqs xs, fq q]) := by
  constructor
  · show (List.all [D.lst (xs.map fq), fq q] (okD 19)) = true
    simp [fq]
  · show (List.all [D.lst (xs.map fq), fq q] (plD 19)) = true
    simp [fq]
theorem at_fq {xs : List Rat} {i : Int} (h0 : 0 ≤ i) (h1 : i < xs.length) : L2.atI (xs.map fq) i = some (fq (xs.getD i.toNat 0)) := by
  obtain ⟨j, rfl⟩ : ∃ j : Nat, i = (j : Int) := ⟨i.toNat, by omega⟩
  have hj : j < xs.length := by omega
  refine atI_nat ?_
  rw [List.getElem?_map, List.getElem?_eq_getElem hj]
  simp [hj]
theorem last_fq {xs : List Rat} (h : xs ≠ []) : L2.atI (xs.map fq) (-1) = some (fq (xs.getLast h)) := by
  rw [at_last (by simpa using h)]
  simp
theorem getD_mem {xs : List Rat} {i : Nat} (h : i < xs.length) : xs.getD i 0 ∈ xs := by
  simp [h]
theorem qdiv_pos {a b : Rat} (ha : 0 < a) (hb : 0 < b) : 0 < a / b := by
  rw [Rat.div_def]; exact Rat.mul_pos ha (Rat.inv_pos.mpr hb)
theorem divI_pos {a b : Int} (ha : 0 < a) (hb : 0 < b) : 0 < Rat.divInt a b := by
  rw [Rat.divInt_eq_div]; exact qdiv_pos (Rat.intCast_pos.mpr ha) (Rat.intCast_pos.mpr hb)
theorem foldl_ge : ∀ {xs : List Rat} {a : Rat}, (∀ x ∈ xs, 0 < x) → a ≤ xs.foldl (· + ·) a
  | [], a, _ => by simp
  | x :: r, a, h => by
    have h1 := foldl_ge (xs := r) (a := a + x) (fun y hy => h y (List.mem_cons_of_mem _ hy))
    have h2 := h x (by simp)
    rw [List.foldl_cons]
    grind
theorem sum_pos {xs : List Rat} (h : ∀ x ∈ xs, 0 < x) (hn : xs ≠ []) : 0 < sumQ xs := by
  cases xs with
  | nil => exact absurd rfl hn
  | cons x r =>
    have h1 := foldl_ge (xs := r) (a := 0 + x) (fun y hy => h y (List.mem_cons_of_mem _ hy))
    have h2 := h x (by simp)
    unfold sumQ
    rw [List.foldl_cons]
    grind
/-! ### rows as data -/
def FQ (n : Nat) (ds : List D) : Prop := ∀ d ∈ ds, ∃ q, Sz n q ∧ d = fq q
theorem FQ.out {n : Nat} : ∀ {ds : List D}, FQ n ds → ∃ xs, ds = xs.map fq ∧ Szs n xs
  | [], _ => ⟨[], rfl, fun x hx => by cases hx⟩
  | d :: r, h => by
    obtain ⟨q, hq, e⟩ := h d (by simp)
    obtain ⟨xs, e2, h2⟩ := FQ.out (ds := r) (fun y hy => h y (List.mem_cons_of_mem _ hy))
    refine ⟨q :: xs, by rw [e, e2]; rfl, fun x hx => ?_⟩
    rcases List.mem_cons.mp hx with z | z
    · rw [z]; exact hq
    · exact h2 x z
theorem FQ.mk {n : Nat} {xs : List Rat} (h : Szs n xs) : FQ n (xs.map fq) := fun d hd => by
  rw [List.mem_map] at hd
  obtain ⟨q, hq, rfl⟩ := hd
  exact ⟨q, h q hq, rfl⟩
theorem FQ.mono {n m : Nat} {ds : List D} (h : FQ n ds) (l : n ≤ m) : FQ m ds := fun d hd => by
  obtain ⟨q, hq, e⟩ := h d hd
  exact ⟨q, hq.mono l, e⟩
theorem FQ.append {n : Nat} {ds es : List D} (h : FQ n ds) (k : FQ n es) : FQ n (ds ++ es) := fun d hd => by
  rcases List.mem_append.mp hd with z | z
  · exact h d z
  · exact k d z
theorem FQ.sub {n : Nat} {ds es : List D} (h : FQ n ds) (k : ∀ e ∈ es, e ∈ ds) : FQ n es := fun d hd => h d (k d hd)
theorem FQ.one {n : Nat} {q : Rat} (h : Sz n q) : FQ n [fq q] := fun d hd => by
  rw [List.mem_singleton] at hd
  exact ⟨q, h, hd⟩
theorem FQ.rep {n k : Nat} {q : Rat} (h : Sz n q) : FQ n (List.replicate k (fq q)) := fun d hd => ⟨q, h, (List.mem_replicate.mp hd).2⟩
theorem FQ.at {n : Nat} {ds : List D} {i : Int} (h : FQ n ds) (h0 : 0 ≤ i) (h1 : i < ds.length) : ∃ q, Sz n q ∧ L2.atI ds i = some (fq q) := by
  obtain ⟨x, e, m⟩ := atI_lt h0 h1
  obtain ⟨q, hq, e2⟩ := h x m
  exact ⟨q, hq, by rw [e, e2]⟩
theorem FQ.last {n : Nat} {ds : List D} (h : FQ n ds) (h0 : ds ≠ []) : ∃ q, Sz n q ∧ L2.atI ds (-1) = some (fq q) := by
  obtain ⟨q, hq, e2⟩ := h _ (List.getLast_mem h0)
  exact ⟨q, hq, by rw [at_last h0, e2]⟩
theorem all2_right {α β : Type} {P : β → Prop} {xs : List α} {ys : List β} (h : All2 (fun _ y => P y) xs ys) : ∀ y ∈ ys, P y := by
  induction h with
  | nil => intro y hy; cases hy
  | cons e _ ih =>
    intro y hy
    rcases List.mem_cons.mp hy with z | z
    · rw [z]; exact e
    · exact ih y z
theorem neg_fq (q : Rat) : D.tup [.int (0 - q.num), .int (q.den : Int)] = fq (-q) := by
  unfold fq
  rw [Rat.neg_num, Rat.neg_den, Int.zero_sub]
theorem ix0_fq (q : Rat) : dIx (fq q) (.int 0) = some (.int q.num) := by simp [fq]
theorem ix1_fq (q : Rat) : dIx (fq q) (.int 1) = some (.int q.den) := by simp [fq]
end Std
namespace K20
open PySem PySem.Spec PyProof.Rows L2 Dt
noncomputable def fb_behind_last : M Fl :=
  mRet (mCallN 2 none Std.fn_over (xV (mFz (mCallN 2 none Std.fn_times (xV (mBin dIx (mVar 0) (mUn dNeg (M.pure (.int 1)))) (xV (mVar 1) (xNil))))) (xV (mFz (mCallN 2 none Std.fn_less (xV (M.pure (.tup [(.int 1), (.int 1)])) (xV (mVar 1) (xNil))))) (xNil))))
noncomputable def fn_behind_last : List D → Rf := runF none 2 fb_behind_last
noncomputable def lb_line_row_holds_0 : M Fl :=
  mIf (mTest (mBin dNe (mFz (mCallN 2 none Std.fn_times (xV (mBin dIx (mVar 4) (mVar 3)) (xV (mBin dIx (mVar 0) (mBin dSub (mVar 3) (M.pure (.int 1)))) (xNil))))) (mFz (mCallN 2 none Std.fn_times (xV (mVar 1) (xV (mBin dIx (mVar 4) (mBin dSub (mVar 3) (M.pure (.int 1)))) (xNil))))))) (mRet (mOf (M.pure (.bl false)))) (mNx)
theorem lb_line_row_holds_0_ap {ρ : Dt.Env} : lb_line_row_holds_0 ρ = (mIf (mTest (mBin dNe (mFz (mCallN 2 none Std.fn_times (xV (mBin dIx (mVar 4) (mVar 3)) (xV (mBin dIx (mVar 0) (mBin dSub (mVar 3) (M.pure (.int 1)))) (xNil))))) (mFz (mCallN 2 none Std.fn_times (xV (mVar 1) (xV (mBin dIx (mVar 4) (mBin dSub (mVar 3) (M.pure (.int 1)))) (xNil))))))) (mRet (mOf (M.pure (.bl false)))) (mNx)) ρ := rfl
noncomputable def fb_line_row_holds : M Fl :=
  mSeq (mAsg (gT 2 (gsC (gN 4) (gsC (gN 5) (gsN)))) (mVar 2))
    (mSeq (mIf (mOr (mTest (mBin dNe (mCall dLen (mCons (mVar 4) (mNil))) (mCall dLen (mCons (mVar 0) (mNil))))) (mOr (mTest (mBin dNe (mVar 5) (mFz (mCallN 2 none Std.fn_over (xV (mVar 1) (xV (mBin dIx (mVar 0) (mUn dNeg (M.pure (.int 1)))) (xNil))))))) (mNot (mTest (mFz (mCallN 2 none Std.fn_is_less (xV (mVar 5) (xV (M.pure (.tup [(.int 1), (.int 1)])) (xNil))))))))) (mRet (mOf (M.pure (.bl false)))) (mNx))
    (mSeq (mFor (mRange2 (mCons (M.pure (.int 1)) (mCons (mCall dLen (mCons (mVar 4) (mNil))) (mNil)))) (gN 3) (lb_line_row_holds_0))
    (mRet (mOf (mBin dEq (mFz (mCallN 2 none Std.fn_plus (xV (mFz (mCallN 1 none Std.fn_total (xV (mVar 4) (xNil)))) (xV (mFz (mCallN 2 none fn_behind_last (xV (mVar 4) (xV (mVar 5) (xNil))))) (xNil))))) (M.pure (.tup [(.int 1), (.int 1)])))))))
noncomputable def fn_line_row_holds : List D → Rf := runF none 6 fb_line_row_holds
noncomputable def lb__law_speeds_0 : M Fl :=
  mApp1 1 (mBin dAdd (mPeek 1 (mUn dNeg (M.pure (.int 1)))) (mFz (mCallN 2 (some 0) Std.fn__law_take (xS 0 (xV (M.pure (.int 4)) (xNil))))))
theorem lb__law_speeds_0_ap {ρ : Dt.Env} : lb__law_speeds_0 ρ = (mApp1 1 (mBin dAdd (mPeek 1 (mUn dNeg (M.pure (.int 1)))) (mFz (mCallN 2 (some 0) Std.fn__law_take (xS 0 (xV (M.pure (.int 4)) (xNil))))))) ρ := rfl
noncomputable def le__law_speeds_0 : M D :=
  mFz (mCallN 2 none Std.fn__law_fraction (xV (mVar 4) (xV (mVar 3) (xNil))))
theorem le__law_speeds_0_ap {ρ : Dt.Env} : le__law_speeds_0 ρ = (mFz (mCallN 2 none Std.fn__law_fraction (xV (mVar 4) (xV (mVar 3) (xNil))))) ρ := rfl
noncomputable def fb__law_speeds : M Fl :=
  mSeq (mSet 1 (mLst (mCons (mBin dAdd (M.pure (.int 1)) (mFz (mCallN 2 (some 0) Std.fn__law_take (xS 0 (xV (M.pure (.int 7)) (xNil)))))) (mNil))))
    (mSeq (mFor (mRange1 (mCons (mFz (mCallN 2 (some 0) Std.fn__law_take (xS 0 (xV (M.pure (.int 6)) (xNil))))) (mNil))) (gN 2) (lb__law_speeds_0))
    (mSeq (mSet 3 (mOf (mBin dAdd (M.pure (.int 1)) (mFz (mCallN 2 (some 0) Std.fn__law_take (xS 0 (xV (M.pure (.int 4)) (xNil))))))))
    (mRet (mLc [4] (mIter (mVar 1)) (gN 4) (M.pure true) (le__law_speeds_0)))))
noncomputable def fn__law_speeds : List D → Rf := runF (some 0) 5 fb__law_speeds
noncomputable def fb__law_behind : M Fl :=
  mRet (mCallN 2 none Std.fn__law_over (xV (mFz (mCallN 2 none Std.fn__law_times (xV (mBin dIx (mVar 0) (mUn dNeg (M.pure (.int 1)))) (xV (mVar 1) (xNil))))) (xV (mFz (mCallN 2 none Std.fn__law_plus (xV (mTup (mCons (M.pure (.int 1)) (mCons (M.pure (.int 1)) (mNil)))) (xV (mTup (mCons (mBin dSub (M.pure (.int 0)) (mBin dIx (mVar 1) (M.pure (.int 0)))) (mCons (mBin dIx (mVar 1) (M.pure (.int 1))) (mNil)))) (xNil))))) (xNil))))
noncomputable def fn__law_behind : List D → Rf := runF none 2 fb__law_behind
noncomputable def lb__law_together_0 : M Fl :=
  mSet 1 (mCallN 2 none Std.fn__law_plus (xV (mVar 1) (xV (mVar 2) (xNil))))
theorem lb__law_together_0_ap {ρ : Dt.Env} : lb__law_together_0 ρ = (mSet 1 (mCallN 2 none Std.fn__law_plus (xV (mVar 1) (xV (mVar 2) (xNil))))) ρ := rfl
noncomputable def fb__law_together : M Fl :=
  mSeq (mSet 1 (mOf (mTup (mCons (M.pure (.int 0)) (mCons (M.pure (.int 1)) (mNil))))))
    (mSeq (mFor (mIter (mVar 0)) (gN 2) (lb__law_together_0))
    (mRet (mMove 1)))
noncomputable def fn__law_together : List D → Rf := runF none 3 fb__law_together
noncomputable def lb__law_right_0 : M Fl :=
  mIf (mTest (mBin dNe (mFz (mCallN 2 none Std.fn__law_times (xV (mBin dIx (mVar 2) (mVar 4)) (xV (mBin dIx (mVar 0) (mBin dSub (mVar 4) (M.pure (.int 1)))) (xNil))))) (mFz (mCallN 2 none Std.fn__law_times (xV (mVar 1) (xV (mBin dIx (mVar 2) (mBin dSub (mVar 4) (M.pure (.int 1)))) (xNil))))))) (mRet (mOf (M.pure (.bl false)))) (mNx)
theorem lb__law_right_0_ap {ρ : Dt.Env} : lb__law_right_0 ρ = (mIf (mTest (mBin dNe (mFz (mCallN 2 none Std.fn__law_times (xV (mBin dIx (mVar 2) (mVar 4)) (xV (mBin dIx (mVar 0) (mBin dSub (mVar 4) (M.pure (.int 1)))) (xNil))))) (mFz (mCallN 2 none Std.fn__law_times (xV (mVar 1) (xV (mBin dIx (mVar 2) (mBin dSub (mVar 4) (M.pure (.int 1)))) (xNil))))))) (mRet (mOf (M.pure (.bl false)))) (mNx)) ρ := rfl
noncomputable def fb__law_right : M Fl :=
  mSeq (mIf (mOr (mTest (mBin dNe (mCall dLen (mCons (mVar 2) (mNil))) (mCall dLen (mCons (mVar 0) (mNil))))) (mOr (mTest (mBin dNe (mVar 3) (mFz (mCallN 2 none Std.fn__law_over (xV (mVar 1) (xV (mBin dIx (mVar 0) (mUn dNeg (M.pure (.int 1)))) (xNil))))))) (mTest (mBin dGe (mBin dIx (mVar 3) (M.pure (.int 0))) (mBin dIx (mVar 3) (M.pure (.int 1))))))) (mRet (mOf (M.pure (.bl false)))) (mNx))
    (mSeq (mFor (mRange2 (mCons (M.pure (.int 1)) (mCons (mCall dLen (mCons (mVar 2) (mNil))) (mNil)))) (gN 4) (lb__law_right_0))
    (mRet (mOf (mBin dEq (mFz (mCallN 2 none Std.fn__law_plus (xV (mFz (mCallN 1 none fn__law_together (xV (mVar 2) (xNil)))) (xV (mFz (mCallN 2 none fn__law_behind (xV (mVar 2) (xV (mVar 3) (xNil))))) (xNil))))) (mTup (mCons (M.pure (.int 1)) (mCons (M.pure (.int 1)) (mNil))))))))
noncomputable def fn__law_right : List D → Rf := runF none 5 fb__law_right
noncomputable def lb__law_row_0 : M Fl :=
  mApp1 2 (mFz (mCallN 2 none Std.fn__law_over (xV (mFz (mCallN 2 none Std.fn__law_times (xV (mPeek 2 (mUn dNeg (M.pure (.int 1)))) (xV (mVar 1) (xNil))))) (xV (mVar 3) (xNil)))))
theorem lb__law_row_0_ap {ρ : Dt.Env} : lb__law_row_0 ρ = (mApp1 2 (mFz (mCallN 2 none Std.fn__law_over (xV (mFz (mCallN 2 none Std.fn__law_times (xV (mPeek 2 (mUn dNeg (M.pure (.int 1)))) (xV (mVar 1) (xNil))))) (xV (mVar 3) (xNil)))))) ρ := rfl
noncomputable def le__law_row_0 : M D :=
  mFz (mCallN 2 none Std.fn__law_over (xV (mVar 3) (xV (mVar 5) (xNil))))
theorem le__law_row_0_ap {ρ : Dt.Env} : le__law_row_0 ρ = (mFz (mCallN 2 none Std.fn__law_over (xV (mVar 3) (xV (mVar 5) (xNil))))) ρ := rfl
noncomputable def fb__law_row : M Fl :=
  mSeq (mSet 2 (mLst (mCons (mTup (mCons (M.pure (.int 1)) (mCons (M.pure (.int 1)) (mNil)))) (mNil))))
    (mSeq (mFor (mIter (mFz (mSl (mVar 0) (mPart none) (mPart (some (mUn dNeg (M.pure (.int 1)))))))) (gN 3) (lb__law_row_0))
    (mSeq (mSet 4 (mCallN 2 none Std.fn__law_over (xV (mVar 1) (xV (mBin dIx (mVar 0) (mUn dNeg (M.pure (.int 1)))) (xNil)))))
    (mSeq (mIf (mTest (mBin dGe (mBin dIx (mVar 4) (M.pure (.int 0))) (mBin dIx (mVar 4) (M.pure (.int 1))))) (mRet (mOf (mTup (mCons (mVar 2) (mCons (mVar 4) (mNil)))))) (mNx))
    (mSeq (mSet 5 (mCallN 2 none Std.fn__law_plus (xV (mFz (mCallN 1 none fn__law_together (xV (mVar 2) (xNil)))) (xV (mFz (mCallN 2 none fn__law_behind (xV (mVar 2) (xV (mVar 4) (xNil))))) (xNil)))))
    (mRet (mOf (mTup (mCons (mFz (mLc [3] (mIter (mVar 2)) (gN 3) (M.pure true) (le__law_row_0))) (mCons (mVar 4) (mNil))))))))))
noncomputable def fn__law_row : List D → Rf := runF none 6 fb__law_row
noncomputable def le__law_bent_0 : M D :=
  mFz (mCallN 2 none Std.fn__law_fraction (xV (mFz (mCallN 2 (some 0) Std.fn__law_take (xS 0 (xV (M.pure (.int 4)) (xNil))))) (xV (mBin dAdd (M.pure (.int 1)) (mFz (mCallN 2 (some 0) Std.fn__law_take (xS 0 (xV (M.pure (.int 4)) (xNil)))))) (xNil))))
theorem le__law_bent_0_ap {ρ : Dt.Env} : le__law_bent_0 ρ = (mFz (mCallN 2 none Std.fn__law_fraction (xV (mFz (mCallN 2 (some 0) Std.fn__law_take (xS 0 (xV (M.pure (.int 4)) (xNil))))) (xV (mBin dAdd (M.pure (.int 1)) (mFz (mCallN 2 (some 0) Std.fn__law_take (xS 0 (xV (M.pure (.int 4)) (xNil)))))) (xNil))))) ρ := rfl
noncomputable def le__law_bent_1 : M D :=
  mFz (mCallN 2 none Std.fn__law_times (xV (mVar 11) (xV (mVar 5) (xNil))))
theorem le__law_bent_1_ap {ρ : Dt.Env} : le__law_bent_1 ρ = (mFz (mCallN 2 none Std.fn__law_times (xV (mVar 11) (xV (mVar 5) (xNil))))) ρ := rfl
noncomputable def le__law_bent_2 : M D :=
  mTup (mCons (mVar 11) (mCons (mVar 2) (mNil)))
theorem le__law_bent_2_ap {ρ : Dt.Env} : le__law_bent_2 ρ = (mTup (mCons (mVar 11) (mCons (mVar 2) (mNil)))) ρ := rfl
noncomputable def fb__law_bent : M Fl :=
  mSeq (mSet 3 (mCallN 2 (some 0) Std.fn__law_take (xS 0 (xV (mCall dLen (mCons (mVar 1) (mNil))) (xNil)))))
    (mSeq (mSet 4 (mCallN 2 none Std.fn__law_fraction (xV (mBin dSub (mFz (mCallN 2 (some 0) Std.fn__law_take (xS 0 (xV (M.pure (.int 7)) (xNil))))) (M.pure (.int 3))) (xV (mBin dAdd (M.pure (.int 1)) (mFz (mCallN 2 (some 0) Std.fn__law_take (xS 0 (xV (M.pure (.int 5)) (xNil)))))) (xNil)))))
    (mSeq (mSet 5 (mCallN 2 none Std.fn__law_fraction (xV (mFz (mCallN 2 (some 0) Std.fn__law_take (xS 0 (xV (M.pure (.int 4)) (xNil))))) (xV (mBin dAdd (M.pure (.int 1)) (mFz (mCallN 2 (some 0) Std.fn__law_take (xS 0 (xV (M.pure (.int 4)) (xNil)))))) (xNil)))))
    (mSeq (mSet 6 (mOf (mBin dAdd (mBin dAdd (mFz (mSl (mVar 1) (mPart none) (mPart (some (mVar 3))))) (mFz (mLst (mCons (mFz (mCallN 2 none Std.fn__law_plus (xV (mBin dIx (mVar 1) (mVar 3)) (xV (mVar 4) (xNil))))) (mNil))))) (mFz (mSl (mVar 1) (mPart (some (mBin dAdd (mVar 3) (M.pure (.int 1))))) (mPart none))))))
    (mSeq (mSet 7 (mOf (mBin dAdd (mFz (mSl (mVar 6) (mPart none) (mPart (some (mUn dNeg (M.pure (.int 1))))))) (mFz (mLst (mCons (mFz (mCallN 2 none Std.fn__law_plus (xV (mBin dIx (mVar 6) (mUn dNeg (M.pure (.int 1)))) (xV (mTup (mCons (mBin dSub (M.pure (.int 0)) (mBin dIx (mVar 4) (M.pure (.int 0)))) (mCons (mBin dIx (mVar 4) (M.pure (.int 1))) (mNil)))) (xNil))))) (mNil)))))))
    (mSeq (mSet 8 (mLc [11] (mIter (mVar 1)) (gN 11) (M.pure true) (le__law_bent_0)))
    (mSeq (mSet 9 (mLst (mCons (mVar 1) (mCons (mVar 6) (mCons (mVar 7) (mCons (mFz (mLc [11] (mIter (mVar 1)) (gN 11) (M.pure true) (le__law_bent_1))) (mCons (mBin dAdd (mVar 1) (mFz (mLst (mCons (mVar 4) (mNil))))) (mCons (mFz (mSl (mVar 1) (mPart none) (mPart (some (mUn dNeg (M.pure (.int 1))))))) (mCons (mFz (mLst (mNil))) (mNil))))))))))
    (mSeq (mSet 9 (mOf (mBin dAdd (mVar 9) (mFz (mLst (mCons (mFz (mRevL (mVar 1))) (mCons (mBin dMul (mFz (mLst (mCons (mTup (mCons (M.pure (.int 0)) (mCons (M.pure (.int 1)) (mNil)))) (mNil)))) (mCall dLen (mCons (mVar 1) (mNil)))) (mCons (mVar 8) (mCons (mBin dMul (mFz (mLst (mCons (mTup (mCons (M.pure (.int 1)) (mCons (M.pure (.int 1)) (mNil)))) (mNil)))) (mCall dLen (mCons (mVar 1) (mNil)))) (mCons (mBin dAdd (mVar 1) (mFz (mSl (mVar 1) (mPart (some (mUn dNeg (M.pure (.int 1))))) (mPart none)))) (mNil)))))))))))
    (mSeq (mSet 10 (mLc [11] (mIter (mVar 9)) (gN 11) (M.pure true) (le__law_bent_2)))
    (mRet (mOf (mBin dAdd (mVar 10) (mFz (mLst (mCons (mTup (mCons (mVar 1) (mCons (mFz (mCallN 2 none Std.fn__law_plus (xV (mVar 2) (xV (mVar 4) (xNil))))) (mNil)))) (mCons (mTup (mCons (mVar 1) (mCons (mFz (mCallN 2 none Std.fn__law_times (xV (mVar 2) (xV (mVar 5) (xNil))))) (mNil)))) (mCons (mTup (mCons (mVar 1) (mCons (mTup (mCons (M.pure (.int 0)) (mCons (M.pure (.int 1)) (mNil)))) (mNil)))) (mCons (mTup (mCons (mVar 1) (mCons (mTup (mCons (M.pure (.int 1)) (mCons (M.pure (.int 1)) (mNil)))) (mNil)))) (mNil))))))))))))))))))
noncomputable def fn__law_bent : List D → Rf := runF (some 0) 12 fb__law_bent
noncomputable def fb__law_says : M Fl :=
  mSeq (mIf (mTest (mVar 1)) (mRet (mOf (mBin dIs (mVar 0) (M.pure (.bl true))))) (mNx))
    (mRet (mOf (mBin dIs (mVar 0) (M.pure (.bl false)))))
noncomputable def fn__law_says : List D → Rf := runF none 2 fb__law_says
noncomputable def lb_law_0 : M Fl :=
  mSeq (mSet 10 (mOf (mTup (mCons (mFz (mListOf (mCons (mVar 8) (mNil)))) (mCons (mVar 9) (mNil))))))
    (mSeq (mSet 11 (mCallN 4 none fn__law_right (xV (mVar 3) (xV (mVar 4) (xV (mVar 8) (xV (mVar 9) (xNil)))))))
    (mSeq (mIf (mNot (mTest (mFz (mCallN 2 none fn__law_says (xV (mFz (mCallN 3 none fn_line_row_holds (xV (mVar 3) (xV (mVar 4) (xV (mVar 10) (xNil)))))) (xV (mVar 11) (xNil))))))) (mRet (mOf (M.pure (.bl false)))) (mNx))
    (mIf (mOr (mTest (mBin dNe (mVar 10) (mTup (mCons (mVar 8) (mCons (mVar 9) (mNil)))))) (mTest (mBin dNe (mVar 3) (mVar 5)))) (mRet (mOf (M.pure (.bl false)))) (mNx))))
theorem lb_law_0_ap {ρ : Dt.Env} : lb_law_0 ρ = (mSeq (mSet 10 (mOf (mTup (mCons (mFz (mListOf (mCons (mVar 8) (mNil)))) (mCons (mVar 9) (mNil))))))
    (mSeq (mSet 11 (mCallN 4 none fn__law_right (xV (mVar 3) (xV (mVar 4) (xV (mVar 8) (xV (mVar 9) (xNil)))))))
    (mSeq (mIf (mNot (mTest (mFz (mCallN 2 none fn__law_says (xV (mFz (mCallN 3 none fn_line_row_holds (xV (mVar 3) (xV (mVar 4) (xV (mVar 10) (xNil)))))) (xV (mVar 11) (xNil))))))) (mRet (mOf (M.pure (.bl false)))) (mNx))
    (mIf (mOr (mTest (mBin dNe (mVar 10) (mTup (mCons (mVar 8) (mCons (mVar 9) (mNil)))))) (mTest (mBin dNe (mVar 3) (mVar 5)))) (mRet (mOf (M.pure (.bl false)))) (mNx))))) ρ := rfl
noncomputable def lb_law_1 : M Fl :=
  mSeq (mSet 2 (mCallN 2 none Std.fn__law_stream (xV (mVar 0) (xV (mVar 1) (xNil)))))
    (mSeq (mSet 3 (mCallN 1 (some 0) fn__law_speeds (xS 2 (xNil))))
    (mSeq (mSet 4 (mCallN 2 none Std.fn__law_times (xV (mBin dIx (mVar 3) (mUn dNeg (M.pure (.int 1)))) (xV (mFz (mCallN 2 none Std.fn__law_fraction (xV (mBin dAdd (M.pure (.int 1)) (mFz (mCallN 2 (some 0) Std.fn__law_take (xS 2 (xV (M.pure (.int 6)) (xNil)))))) (xV (mBin dAdd (M.pure (.int 2)) (mFz (mCallN 2 (some 0) Std.fn__law_take (xS 2 (xV (M.pure (.int 4)) (xNil)))))) (xNil))))) (xNil)))))
    (mSeq (mAsg (gT 2 (gsC (gN 6) (gsC (gN 7) (gsN)))) (mFz (mCallN 2 none fn__law_row (xV (mVar 3) (xV (mVar 4) (xNil))))))
    (mSeq (mSet 5 (mListOf (mCons (mVar 3) (mNil))))
    (mFor (mIter (mFz (mCallN 3 (some 0) fn__law_bent (xS 2 (xV (mVar 6) (xV (mVar 7) (xNil))))))) (gT 2 (gsC (gN 8) (gsC (gN 9) (gsN)))) (lb_law_0))))))
theorem lb_law_1_ap {ρ : Dt.Env} : lb_law_1 ρ = (mSeq (mSet 2 (mCallN 2 none Std.fn__law_stream (xV (mVar 0) (xV (mVar 1) (xNil)))))
    (mSeq (mSet 3 (mCallN 1 (some 0) fn__law_speeds (xS 2 (xNil))))
    (mSeq (mSet 4 (mCallN 2 none Std.fn__law_times (xV (mBin dIx (mVar 3) (mUn dNeg (M.pure (.int 1)))) (xV (mFz (mCallN 2 none Std.fn__law_fraction (xV (mBin dAdd (M.pure (.int 1)) (mFz (mCallN 2 (some 0) Std.fn__law_take (xS 2 (xV (M.pure (.int 6)) (xNil)))))) (xV (mBin dAdd (M.pure (.int 2)) (mFz (mCallN 2 (some 0) Std.fn__law_take (xS 2 (xV (M.pure (.int 4)) (xNil)))))) (xNil))))) (xNil)))))
    (mSeq (mAsg (gT 2 (gsC (gN 6) (gsC (gN 7) (gsN)))) (mFz (mCallN 2 none fn__law_row (xV (mVar 3) (xV (mVar 4) (xNil))))))
    (mSeq (mSet 5 (mListOf (mCons (mVar 3) (mNil))))
    (mFor (mIter (mFz (mCallN 3 (some 0) fn__law_bent (xS 2 (xV (mVar 6) (xV (mVar 7) (xNil))))))) (gT 2 (gsC (gN 8) (gsC (gN 9) (gsN)))) (lb_law_0))))))) ρ := rfl
noncomputable def fb_law : M Fl :=
  mSeq (mFor (mRange1 (mCons (M.pure (.int 3)) (mNil))) (gN 1) (lb_law_1))
    (mRet (mOf (M.pure (.bl true))))
noncomputable def fn_law : List D → Rf := runF none 12 fb_law
end K20
namespace K20
open PySem L2 Dt Std
def stp (sp : List Rat) (ld : Rat) (sh : List Rat) : D → Bool
  | .int i => decide (sh.getD i.toNat 0 * sp.getD (i - 1).toNat 0 = ld * sh.getD (i - 1).toNat 0)
  | _ => true
def holds (sp : List Rat) (ld : Rat) (sh : List Rat) (ra : Rat) : Bool :=
  if h : sh.length = sp.length ∧ ∃ hs : sp ≠ [], ra = ld / sp.getLast hs ∧ ra < 1 then
    (if (rangeD 1 sh.length).all (stp sp ld sh) then decide (sumQ sh + sh.getLast (by intro z; subst z; exact h.2.1 (List.length_eq_zero_iff.mp h.1.symm)) * ra / (1 - ra) = 1) else false)
  else false
theorem behind_ok {n m : Nat} {sh : List Rat} {ra : Rat} (hs : sh ≠ []) (h1 : Szs n sh) (h2 : Sz m ra) (h3 : ra < 1) (hn : n + m + m + 10 ≤ 8000) : fn_behind_last [fqs sh, fq ra] = .ok (fq (sh.getLast hs * ra / (1 - ra))) false .non := by
  have k1 := times_ok (h1 _ (List.getLast_mem hs)) h2 (by omega)
  have k2 := less_ok sz_one h2 (by omega)
  have k3 := over_ok (sz_mul (h1 _ (List.getLast_mem hs)) h2) (sz_sub sz_one h2) (by omega) (by grind)
  rw [fq_one] at k2
  unfold fn_behind_last runF fb_behind_last
  simp -implicitDefEqProofs [fqs, last_fq hs, k1, k2, k3]
theorem lbehind_ok {n m : Nat} {sh : List Rat} {ra : Rat} (hs : sh ≠ []) (h1 : Szs n sh) (h2 : Sz m ra) (h3 : ra < 1) (hn : n + m + m + 10 ≤ 8000) : fn__law_behind [fqs sh, fq ra] = .ok (fq (sh.getLast hs * ra / (1 - ra))) false .non := by
  have k1 := lawt_ok (h1 _ (List.getLast_mem hs)) h2 (by omega)
  have k2 := lawp_ok sz_one (sz_neg h2) (by omega)
  have e1 : (1 : Rat) + -ra = 1 - ra := by grind
  rw [e1] at k2
  have k3 := lawo_ok (sz_mul (h1 _ (List.getLast_mem hs)) h2) (sz_sub sz_one h2) (by omega) (by grind)
  rw [fq_one, ← neg_fq, Int.zero_sub] at k2
  have e2 : dIx (fq ra) (.int 0) = some (.int ra.num) := by simp -implicitDefEqProofs [fq]
  have e3 : dIx (fq ra) (.int 1) = some (.int ra.den) := by simp -implicitDefEqProofs [fq]
  unfold fn__law_behind runF fb__law_behind
  simp -implicitDefEqProofs [fqs, last_fq hs, k1, e2, e3, k2, k3]
theorem together_loop {n : Nat} : ∀ {xs : List Rat} {m : Nat} {a : Rat} {s t : Slot}, Szs n xs → Sz m a → m + xs.length * (n + 1) ≤ 8990 →
    ∃ t', mForL (gN 2) (lb__law_together_0) (xs.map fq) [s, .fz (fq a), t] = .ok .nx [s, .fz (fq (xs.foldl (· + ·) a)), t']
  | [], m, a, s, t, _, _, _ => ⟨t, rfl⟩
  | x :: r, m, a, s, t, h, ha, hl => by
    rw [List.length_cons, Nat.succ_mul] at hl
    have hx := h x (by simp)
    have h1 := sz_add ha hx
    obtain ⟨t', e⟩ := together_loop (xs := r) (s := s) (t := .fz (fq x)) (fun y hy => h y (List.mem_cons_of_mem _ hy)) h1 (by omega)
    refine ⟨t', ?_⟩
    rw [List.map_cons, forL_cons]
    simp -implicitDefEqProofs [lb__law_together_0_ap, lawp_ok ha hx (by omega), e]
theorem together_ok {n : Nat} {xs : List Rat} (h : Szs n xs) (hl : 1 + xs.length * (n + 1) ≤ 8990) : fn__law_together [fqs xs] = .ok (fq (sumQ xs)) false .non := by
  obtain ⟨t', e⟩ := together_loop (s := .fz (fqs xs)) (t := .un) h sz_zero hl
  unfold fn__law_together runF fb__law_together
  unfold fqs at e ⊢
  rw [fq_zero] at e
  simp -implicitDefEqProofs [e, sumQ]
section
variable {sp sh : List Rat} {ld ra : Rat}
theorem holds_ok (hp : sp ≠ []) (hl : sp.getLast hp ≠ 0) (z1 : Szs 5 sp) (z2 : Sz 8 ld) (z3 : Szs 600 sh) (z4 : Sz 20 ra) (z5 : sh.length ≤ 7) :
    fn_line_row_holds [fqs sp, fq ld, .tup [fqs sh, fq ra]] = .ok (.bl (holds sp ld sh ra)) false .non := by
  have k1 := over_ok z2 (z1 _ (List.getLast_mem hp)) (by omega) hl
  have k2 := is_less_ok z4 sz_one (by omega)
  have e0 := fq_one
  have e1 := last_fq hp
  unfold fn_line_row_holds runF fb_line_row_holds
  by_cases c1 : sh.length = sp.length
  · by_cases c2 : ra = ld / sp.getLast hp
    · by_cases c3 : ra < 1
      · have hs : sh ≠ [] := by intro z; subst z; exact hp (List.length_eq_zero_iff.mp c1.symm)
        have e2 := last_fq hs
        obtain ⟨ρ', f1, v, f2⟩ := forL_all (xs := rangeD 1 sh.length) (h := gN 3) (b := (lb_line_row_holds_0))
          (ρ := [.fz (fqs sp), .fz (fq ld), .fz (.tup [fqs sh, fq ra]), .un, .fz (fqs sh), .fz (fq ra)])
          (fun ρ => ∃ v, ρ = [.fz (fqs sp), .fz (fq ld), .fz (.tup [fqs sh, fq ra]), v, .fz (fqs sh), .fz (fq ra)]) (stp sp ld sh) (.bl false) false (fun x hx ρ hρ => by
            obtain ⟨v, rfl⟩ := hρ
            obtain ⟨i, rfl, i0, i1⟩ := rangeD_mem hx
            have a1 := at_fq (xs := sh) (i := i) (by omega) (by omega)
            have a2 := at_fq (xs := sp) (i := i - 1) (by omega) (by omega)
            have a3 := at_fq (xs := sh) (i := i - 1) (by omega) (by omega)
            have b1 := times_ok (z3 _ (getD_mem (xs := sh) (i := i.toNat) (by omega))) (z1 _ (getD_mem (xs := sp) (i := (i - 1).toNat) (by omega))) (by omega)
            have b2 := times_ok z2 (z3 _ (getD_mem (xs := sh) (i := (i - 1).toNat) (by omega))) (by omega)
            refine ⟨_, [.fz (fqs sp), .fz (fq ld), .fz (.tup [fqs sh, fq ra]), .fz (.int i), .fz (fqs sh), .fz (fq ra)], rfl, ?_, _, rfl⟩
            unfold fqs stp
            by_cases q : sh.getD i.toNat 0 * sp.getD (i - 1).toNat 0 = ld * sh.getD (i - 1).toNat 0
            · simp -implicitDefEqProofs [lb_line_row_holds_0_ap, a1, a2, a3, b1, b2, q, -List.getD_eq_getElem?_getD, -Int.pred_toNat]
            · simp -implicitDefEqProofs [lb_line_row_holds_0_ap, a1, a2, a3, b1, b2, q, -List.getD_eq_getElem?_getD, -Int.pred_toNat]) ⟨_, rfl⟩
        subst f2
        have b3 := total_ok z3 (by omega)
        have b4 := behind_ok hs z3 z4 c3 (by omega)
        have b5 := plus_ok (sz_sumQ z3) (sz_quo (sz_mul (z3 _ (List.getLast_mem hs)) z4) (sz_sub sz_one z4)) (by omega)
        have b6 := eq_fq (p := sumQ sh + sh.getLast hs * ra / (1 - ra)) (q := 1)
        rw [e0] at b6
        have r1 : -100000000 < (sh.length : Int) ∧ (sh.length : Int) < 100000000 := by omega
        rw [e0] at k2
        unfold fqs at f1 b3 b4 ⊢
        have ht : holds sp ld sh ra = if (rangeD 1 sh.length).all (stp sp ld sh) then decide (sumQ sh + sh.getLast hs * ra / (1 - ra) = 1) else false := by
          unfold holds
          rw [dif_pos ⟨c1, hp, c2, c3⟩]
        rw [ht]
        by_cases q : (rangeD 1 sh.length).all (stp sp ld sh) = true
        · simp only [q, if_true] at f1 ⊢
          simp -implicitDefEqProofs [c1, e1, k1, k2, c3, ← c2]
          rw [← c1]
          simp -implicitDefEqProofs [r1, f1, b3, b4, b5, b6]
        · simp only [q] at f1 ⊢
          simp -implicitDefEqProofs [c1, e1, k1, k2, c3, ← c2]
          rw [← c1]
          simp -implicitDefEqProofs [r1, f1]
      · have ht : holds sp ld sh ra = false := by
          unfold holds
          rw [dif_neg (fun z => c3 z.2.2.2)]
        rw [e0] at k2
        rw [ht]
        unfold fqs
        simp -implicitDefEqProofs [c1, e1, k1, k2, c3, ← c2]
    · have ht : holds sp ld sh ra = false := by
        unfold holds
        rw [dif_neg (fun z => c2 z.2.2.1)]
      rw [ht]
      unfold fqs
      simp -implicitDefEqProofs [c1, e1, k1, c2]
  · have ht : holds sp ld sh ra = false := by
      unfold holds
      rw [dif_neg (fun z => c1 z.1)]
    have c2 : ¬ ((sh.length : Int) = (sp.length : Int)) := by omega
    rw [ht]
    unfold fqs
    simp -implicitDefEqProofs [c2]
theorem right_ok (hp : sp ≠ []) (hl : sp.getLast hp ≠ 0) (z1 : Szs 5 sp) (z2 : Sz 8 ld) (z3 : Szs 600 sh) (z4 : Sz 20 ra) (z5 : sh.length ≤ 7) :
    fn__law_right [fqs sp, fq ld, fqs sh, fq ra] = .ok (.bl (holds sp ld sh ra)) false .non := by
  have k1 := lawo_ok z2 (z1 _ (List.getLast_mem hp)) (by omega) hl
  have i0 : dIx (fq ra) (.int 0) = some (.int ra.num) := by simp [fq]
  have i1 : dIx (fq ra) (.int 1) = some (.int ra.den) := by simp [fq]
  have k2 : decide ((ra.den : Int) ≤ ra.num) = !decide (ra < 1) := by
    rw [← decide_not, decide_eq_decide, Rat.lt_iff]
    simp
  have e0 := fq_one
  have e1 := last_fq hp
  unfold fn__law_right runF fb__law_right
  by_cases c1 : sh.length = sp.length
  · by_cases c2 : ra = ld / sp.getLast hp
    · by_cases c3 : ra < 1
      · have hs : sh ≠ [] := by intro z; subst z; exact hp (List.length_eq_zero_iff.mp c1.symm)
        have e2 := last_fq hs
        obtain ⟨ρ', f1, v, f2⟩ := forL_all (xs := rangeD 1 sh.length) (h := gN 4) (b := (lb__law_right_0))
          (ρ := [.fz (fqs sp), .fz (fq ld), .fz (fqs sh), .fz (fq ra), .un])
          (fun ρ => ∃ v, ρ = [.fz (fqs sp), .fz (fq ld), .fz (fqs sh), .fz (fq ra), v]) (stp sp ld sh) (.bl false) false (fun x hx ρ hρ => by
            obtain ⟨v, rfl⟩ := hρ
            obtain ⟨i, rfl, i0, i1⟩ := rangeD_mem hx
            have a1 := at_fq (xs := sh) (i := i) (by omega) (by omega)
            have a2 := at_fq (xs := sp) (i := i - 1) (by omega) (by omega)
            have a3 := at_fq (xs := sh) (i := i - 1) (by omega) (by omega)
            have b1 := lawt_ok (z3 _ (getD_mem (xs := sh) (i := i.toNat) (by omega))) (z1 _ (getD_mem (xs := sp) (i := (i - 1).toNat) (by omega))) (by omega)
            have b2 := lawt_ok z2 (z3 _ (getD_mem (xs := sh) (i := (i - 1).toNat) (by omega))) (by omega)
            refine ⟨_, [.fz (fqs sp), .fz (fq ld), .fz (fqs sh), .fz (fq ra), .fz (.int i)], rfl, ?_, _, rfl⟩
            unfold fqs stp
            by_cases q : sh.getD i.toNat 0 * sp.getD (i - 1).toNat 0 = ld * sh.getD (i - 1).toNat 0
            · simp -implicitDefEqProofs [lb__law_right_0_ap, a1, a2, a3, b1, b2, q, -List.getD_eq_getElem?_getD, -Int.pred_toNat]
            · simp -implicitDefEqProofs [lb__law_right_0_ap, a1, a2, a3, b1, b2, q, -List.getD_eq_getElem?_getD, -Int.pred_toNat]) ⟨_, rfl⟩
        subst f2
        have b3 := together_ok z3 (by omega)
        have b4 := lbehind_ok hs z3 z4 c3 (by omega)
        have b5 := lawp_ok (sz_sumQ z3) (sz_quo (sz_mul (z3 _ (List.getLast_mem hs)) z4) (sz_sub sz_one z4)) (by omega)
        have b6 := eq_fq (p := sumQ sh + sh.getLast hs * ra / (1 - ra)) (q := 1)
        rw [e0] at b6
        have r1 : -100000000 < (sh.length : Int) ∧ (sh.length : Int) < 100000000 := by omega
        unfold fqs at f1 b3 b4 ⊢
        have ht : holds sp ld sh ra = if (rangeD 1 sh.length).all (stp sp ld sh) then decide (sumQ sh + sh.getLast hs * ra / (1 - ra) = 1) else false := by
          unfold holds
          rw [dif_pos ⟨c1, hp, c2, c3⟩]
        rw [ht]
        by_cases q : (rangeD 1 sh.length).all (stp sp ld sh) = true
        · simp only [q, if_true] at f1 ⊢
          simp -implicitDefEqProofs [c1, e1, k1, i0, i1, k2, c3, ← c2]
          rw [← c1]
          simp -implicitDefEqProofs [r1, f1, b3, b4, b5, b6]
        · simp only [q] at f1 ⊢
          simp -implicitDefEqProofs [c1, e1, k1, i0, i1, k2, c3, ← c2]
          rw [← c1]
          simp -implicitDefEqProofs [r1, f1]
      · have ht : holds sp ld sh ra = false := by
          unfold holds
          rw [dif_neg (fun z => c3 z.2.2.2)]
        rw [ht]
        unfold fqs
        simp -implicitDefEqProofs [c1, e1, k1, i0, i1, k2, c3, ← c2]
    · have ht : holds sp ld sh ra = false := by
        unfold holds
        rw [dif_neg (fun z => c2 z.2.2.1)]
      rw [ht]
      unfold fqs
      simp -implicitDefEqProofs [c1, e1, k1, c2]
  · have ht : holds sp ld sh ra = false := by
      unfold holds
      rw [dif_neg (fun z => c1 z.1)]
    have c2 : ¬ ((sh.length : Int) = (sp.length : Int)) := by omega
    rw [ht]
    unfold fqs
    simp -implicitDefEqProofs [c2]
end
/-! ### what the law draws -/
theorem speeds_ok {s : D} (hs : Strm s) : ∃ sp s', fn__law_speeds [s] = .ok (fqs sp) true s' ∧ Strm s' ∧ sp ≠ [] ∧ sp.length ≤ 6 ∧ Szs 5 sp ∧ ∀ x ∈ sp, 0 < x := by
  obtain ⟨a, s1, e1, hs1, a0, a1⟩ := take_ok (most := 7) hs (by decide) (by decide)
  obtain ⟨b, s2, e2, hs2, b0, b1⟩ := take_ok (most := 6) hs1 (by decide) (by decide)
  obtain ⟨ρ', f1, s3, zs, v, rfl, hs3, z0, z1, z2⟩ := forL_go (xs := rangeD 0 b) (h := gN 2) (b := lb__law_speeds_0)
    (ρ := [.io s2, .ow (.lst [.int (1 + a)]), .un, .un, .un])
    (fun k ρ => ∃ s zs v, ρ = [.io s, .ow (.lst (zs.map D.int)), v, .un, .un] ∧ Strm s ∧ zs ≠ [] ∧ zs.length = k + 1 ∧ ∀ z ∈ zs, 1 ≤ z ∧ z ≤ 7 + 3 * (k : Int))
    (fun k hk ρ hI => by
      obtain ⟨s, zs, v, rfl, hs, z0, z1, z2⟩ := hI
      obtain ⟨c, s4, e4, hs4, c0, c1⟩ := take_ok (most := 4) hs (by decide) (by decide)
      have hl : L2.atI (zs.map D.int) (-1) = some (.int (zs.getLast z0)) := by
        rw [at_last (by simpa using z0)]; simp
      rw [rangeD_len] at hk
      have hk2 : (zs.map D.int).length < 10000 := by rw [List.length_map]; omega
      have hz := z2 _ (List.getLast_mem z0)
      refine ⟨_, _, rfl, by simp -implicitDefEqProofs [lb__law_speeds_0_ap, hl, e4, hk2, -List.length_map]; rfl, s4, zs ++ [zs.getLast z0 + c], .fz (rangeD 0 b)[k], ?_, hs4, by simp, by simp [z1], ?_⟩
      · simp
      · intro z hz2
        rw [List.mem_append] at hz2
        rcases hz2 with h | h
        · have := z2 z h; omega
        · rw [List.mem_singleton] at h; omega) ⟨s2, [1 + a], .un, by simp, hs2, by simp, rfl, by intro z hz; rw [List.mem_singleton] at hz; omega⟩
  obtain ⟨c, s4, e4, hs4, c0, c1⟩ := take_ok (most := 4) hs3 (by decide) (by decide)
  rw [rangeD_len] at z1 z2
  have r1 : -100000000 < b ∧ b < 100000000 := by omega
  refine ⟨zs.map fun z => Rat.divInt z (1 + c), s4, ?_, hs4, by simpa using z0, by rw [List.length_map]; omega, ?_, ?_⟩
  · have lm := lc_map (own := [4]) (f := mIter (mVar 1)) (g := gN 4) (e := le__law_speeds_0) (ρ := [.io s4, .ow (.lst (zs.map D.int)), v, .fz (.int (1 + c)), .un]) (ρ0 := [.io s4, .fz (.lst (zs.map D.int)), v, .fz (.int (1 + c)), .un]) (ds := zs.map D.int)
      (fun d => match d with
        | .int z => fq (Rat.divInt z (1 + c))
        | _ => .non) (by simp) (fun d hd => by
          rw [List.mem_map] at hd
          obtain ⟨z, hz, rfl⟩ := hd
          refine ⟨_, rfl, ?_, rfl⟩
          have := lawf_ok (a := z) (b := 1 + c) (by omega) (by omega)
          simp -implicitDefEqProofs [le__law_speeds_0_ap, this, wipeE]) (by rw [List.length_map]; omega)
    unfold fn__law_speeds runF fb__law_speeds
    simp -implicitDefEqProofs [e1, e2, r1, f1, e4, lm, wipeE, fqs, Function.comp_def]
  · intro x hx
    rw [List.mem_map] at hx
    obtain ⟨z, hz, rfl⟩ := hx
    have := z2 z hz
    exact sz_div (by omega) (by omega) (by omega)
  · intro x hx
    rw [List.mem_map] at hx
    obtain ⟨z, hz, rfl⟩ := hx
    have := z2 z hz
    exact divI_pos (by omega) (by omega)
theorem row_loop {ld : Rat} {u v5 v4 : Slot} (hld : 0 < ld) (z2 : Sz 8 ld) : ∀ (xs acc : List Rat) (n : Nat) (w : Slot) (ha : acc ≠ []), Szs 5 xs → (∀ x ∈ xs, 0 < x) → Szs n acc → (∀ x ∈ acc, 0 < x) → n + 13 * xs.length ≤ 100 → acc.length + xs.length ≤ 10 →
    ∃ row w', mForL (gN 3) (lb__law_row_0) (xs.map fq) [u, .fz (fq ld), .ow (fqs acc), w, v4, v5] = .ok .nx [u, .fz (fq ld), .ow (fqs row), w', v4, v5] ∧ row ≠ [] ∧ row.length = acc.length + xs.length ∧ Szs (n + 13 * xs.length) row ∧ ∀ x ∈ row, 0 < x
  | [], acc, n, w, ha, _, _, h3, h4, _, _ => ⟨acc, w, rfl, ha, by simp, by simpa using h3, h4⟩
  | x :: r, acc, n, w, ha, h1, h2, h3, h4, h5, h6 => by
    rw [List.length_cons] at h5 h6
    have hx := h1 x (by simp)
    have px := h2 x (by simp)
    have hl := h3 _ (List.getLast_mem ha)
    have pl := h4 _ (List.getLast_mem ha)
    have k1 := lawt_ok hl z2 (by omega)
    have k2 := lawo_ok (sz_mul hl z2) hx (by omega) (by grind)
    have k3 := sz_quo (sz_mul hl z2) hx
    have p3 := qdiv_pos (Rat.mul_pos pl hld) px
    obtain ⟨row, w', e, g1, g2, g3, g4⟩ := row_loop hld z2 r (acc ++ [acc.getLast ha * ld / x]) (n + 13) (.fz (fq x)) (by simp) (fun y hy => h1 y (List.mem_cons_of_mem _ hy)) (fun y hy => h2 y (List.mem_cons_of_mem _ hy))
      (fun y hy => by
        rw [List.mem_append] at hy
        rcases hy with h | h
        · exact (h3 y h).mono (by omega)
        · rw [List.mem_singleton] at h; subst h; exact k3.mono (by omega))
      (fun y hy => by
        rw [List.mem_append] at hy
        rcases hy with h | h
        · exact h4 y h
        · rw [List.mem_singleton] at h; subst h; exact p3) (by omega) (by rw [List.length_append, List.length_singleton]; omega)
    refine ⟨row, w', ?_, g1, by rw [g2, List.length_append, List.length_singleton, List.length_cons]; omega, g3.mono (by rw [List.length_cons]; omega), g4⟩
    have hk : (acc.map fq).length < 10000 := by rw [List.length_map]; omega
    rw [← e, List.map_cons, forL_cons]
    unfold fqs
    simp -implicitDefEqProofs [lb__law_row_0_ap, last_fq ha, k1, k2, hk, -List.length_map]
theorem row_ok {sp : List Rat} {ld : Rat} (hp : sp ≠ []) (h6 : sp.length ≤ 6) (z1 : Szs 5 sp) (p1 : ∀ x ∈ sp, 0 < x) (hld : 0 < ld) (z2 : Sz 8 ld) :
    ∃ row ra, fn__law_row [fqs sp, fq ld] = .ok (.tup [fqs row, fq ra]) false .non ∧ row ≠ [] ∧ row.length ≤ 6 ∧ Szs 580 row ∧ Sz 13 ra := by
  have hl := z1 _ (List.getLast_mem hp)
  have pl := p1 _ (List.getLast_mem hp)
  have hd : sp.dropLast.length = sp.length - 1 := List.length_dropLast
  obtain ⟨row, w', e1, g1, g2, g3, g4⟩ := row_loop (u := .fz (fqs sp)) (v4 := .un) (v5 := .un) hld z2 sp.dropLast [1] 1 .un (by simp) (fun x hx => z1 x (List.dropLast_subset _ hx)) (fun x hx => p1 x (List.dropLast_subset _ hx)) (fun x hx => by rw [List.mem_singleton] at hx; subst hx; exact sz_one) (fun x hx => by rw [List.mem_singleton] at hx; subst hx; decide) (by omega) (by simp; omega)
  rw [List.length_singleton] at g2
  have g3 : Szs 66 row := g3.mono (by omega)
  have k1 := lawo_ok z2 hl (by omega) (by grind)
  have zr := sz_quo z2 hl
  generalize hra : ld / sp.getLast hp = ra at k1 zr
  have i0 : dIx (fq ra) (.int 0) = some (.int ra.num) := by simp [fq]
  have i1 : dIx (fq ra) (.int 1) = some (.int ra.den) := by simp [fq]
  have k2 : decide ((ra.den : Int) ≤ ra.num) = !decide (ra < 1) := by
    rw [← decide_not, decide_eq_decide, Rat.lt_iff]
    simp
  have cb : cutD (sp.map fq) none (some (-1)) = (sp.map fq).dropLast := cut_butlast
  have e0 := fq_one
  unfold fqs at e1
  rw [List.map_cons, List.map_nil, e0, List.map_dropLast] at e1
  by_cases c : ra < 1
  · have hr : 0 < ra := by rw [← hra]; exact qdiv_pos hld pl
    have q1 := together_ok g3 (by omega)
    have q2 := lbehind_ok g1 g3 zr c (by omega)
    have pz := Rat.mul_pos (g4 _ (List.getLast_mem g1)) hr
    have pb := qdiv_pos pz (show 0 < 1 - ra by grind)
    have q3 := lawp_ok (sz_sumQ g3) (sz_quo (sz_mul (g3 _ (List.getLast_mem g1)) zr) (sz_sub sz_one zr)) (by omega)
    have zf := sz_add (sz_sumQ g3) (sz_quo (sz_mul (g3 _ (List.getLast_mem g1)) zr) (sz_sub sz_one zr))
    have ps := sum_pos g4 g1
    generalize sumQ row = S at q1 q3 zf ps
    generalize row.getLast g1 * ra / (1 - ra) = T at q2 q3 zf pb
    have nf : S + T ≠ 0 := by grind
    refine ⟨row.map (· / (S + T)), ra, ?_, by simpa using g1, by rw [List.length_map]; omega, ?_, zr⟩
    · have lm := lc_map (own := [3]) (f := mIter (mVar 2)) (g := gN 3) (e := le__law_row_0) (ρ := [.fz (fqs sp), .fz (fq ld), .fz (fqs row), w', .fz (fq ra), .fz (fq (S + T))]) (ρ0 := [.fz (fqs sp), .fz (fq ld), .fz (fqs row), w', .fz (fq ra), .fz (fq (S + T))]) (ds := row.map fq)
        (fun d => match fn__law_over [d, fq (S + T)] with
          | .ok z _ _ => z
          | _ => .non) (by simp [fqs]) (fun d hd => by
            rw [List.mem_map] at hd
            obtain ⟨z, hz, rfl⟩ := hd
            refine ⟨_, rfl, ?_, rfl⟩
            have := lawo_ok (g3 z hz) zf (by omega) nf
            simp -implicitDefEqProofs [le__law_row_0_ap, this, wipeE]) (by rw [List.length_map]; omega)
      have em : (row.map fq).map (fun d => match fn__law_over [d, fq (S + T)] with
          | .ok z _ _ => z
          | _ => .non) = (row.map (· / (S + T))).map fq := by
        rw [List.map_map, List.map_map]
        refine List.map_congr_left fun z hz => ?_
        have := lawo_ok (g3 z hz) zf (by omega) nf
        simp [this]
      rw [em] at lm
      unfold fqs at lm q1 q2
      unfold fn__law_row runF fb__law_row fqs
      simp -implicitDefEqProofs [cb, e1, last_fq hp, k1, i0, i1, k2, c, q1, q2, q3, lm, wipeE]
    · intro x hx
      rw [List.mem_map] at hx
      obtain ⟨z, hz, rfl⟩ := hx
      exact (sz_quo (g3 z hz) zf).mono (by omega)
  · refine ⟨row, ra, ?_, g1, by omega, g3.mono (by omega), zr⟩
    unfold fn__law_row runF fb__law_row fqs
    simp -implicitDefEqProofs [cb, e1, last_fq hp, k1, i0, i1, k2, c]
def Good (x : D) : Prop := ∃ sh, x = fqs sh ∧ Szs 600 sh ∧ sh.length ≤ 7
theorem good_of {ds : List D} (h : FQ 600 ds) (l : ds.length ≤ 7) : Good (.lst ds) := by
  obtain ⟨xs, e, h2⟩ := h.out
  subst e
  exact ⟨xs, rfl, h2, by simpa using l⟩
theorem bent_ok {s : D} {R : List D} {ra : Rat} (hs : Strm s) (hR : FQ 580 R) (h0 : R ≠ []) (h6 : R.length ≤ 6) (zr : Sz 13 ra) :
    ∃ ps s', fn__law_bent [s, .lst R, fq ra] = .ok (.lst ps) false s' ∧ Strm s' ∧ ∀ p ∈ ps, ∃ x r, p = .tup [x, fq r] ∧ Good x ∧ Sz 20 r := by
  have hl : 0 < R.length := List.length_pos_iff.mpr h0
  obtain ⟨at_, s1, e1, hs1, a0, a1⟩ := take_ok (most := R.length) hs (by omega) (by omega)
  obtain ⟨b, s2, e2, hs2, b0, b1⟩ := take_ok (most := 7) hs1 (by decide) (by decide)
  obtain ⟨c, s3, e3, hs3, c0, c1⟩ := take_ok (most := 5) hs2 (by decide) (by decide)
  obtain ⟨d, s4, e4, hs4, d0, d1⟩ := take_ok (most := 4) hs3 (by decide) (by decide)
  obtain ⟨e, s5, e5, hs5, g0, g1⟩ := take_ok (most := 4) hs4 (by decide) (by decide)
  have k1 := lawf_ok (a := b - 3) (b := 1 + c) (by omega) (by omega)
  have k2 := lawf_ok (a := d) (b := 1 + e) (by omega) (by omega)
  have z1 : Sz 3 (Rat.divInt (b - 3) (1 + c)) := sz_div (by omega) (by omega) (by omega)
  have z2 : Sz 3 (Rat.divInt d (1 + e)) := sz_div (by omega) (by omega) (by omega)
  generalize Rat.divInt (b - 3) (1 + c) = mo at k1 z1
  generalize Rat.divInt d (1 + e) = sr at k2 z2
  obtain ⟨n, rfl⟩ : ∃ n : Nat, at_ = (n : Int) := ⟨at_.toNat, by omega⟩
  obtain ⟨x, zx, ex⟩ := hR.at (i := (n : Int)) (by omega) a1
  have k3 := lawp_ok zx z1 (by omega)
  have z3 := sz_add zx z1
  -- changed
  have f1 : dAdd (.lst (R.take n)) (.lst [fq (x + mo)]) = some (.lst (R.take n ++ [fq (x + mo)])) := dAdd_l (by rw [List.length_take, List.length_singleton]; omega)
  have f2 : dAdd (.lst (R.take n ++ [fq (x + mo)])) (.lst (R.drop (n + 1))) = some (.lst (R.take n ++ [fq (x + mo)] ++ R.drop (n + 1))) := dAdd_l (by rw [List.length_append, List.length_take, List.length_singleton, List.length_drop]; omega)
  have hC : FQ 590 (R.take n ++ [fq (x + mo)] ++ R.drop (n + 1)) := ((hR.sub (fun _ h => List.mem_of_mem_take h)).mono (by omega)).append (FQ.one (z3.mono (by omega))) |>.append ((hR.sub (fun _ h => List.mem_of_mem_drop h)).mono (by omega))
  have lC : (R.take n ++ [fq (x + mo)] ++ R.drop (n + 1)).length = R.length := by simp; omega
  have cC : R.take n ++ [fq (x + mo)] ++ R.drop (n + 1) ≠ [] := by intro z; rw [z] at lC; rw [List.length_nil] at lC; omega
  have c1' : cutD R none (some (n : Int)) = R.take n := cut_lo
  have c2' : cutD R (some ((n : Int) + 1)) none = R.drop (n + 1) := cut_hi (k := n + 1)
  generalize R.take n ++ [fq (x + mo)] = C1 at f1 f2 hC lC cC
  generalize C1 ++ R.drop (n + 1) = C at f2 hC lC cC
  generalize R.take n = Rt at f1 c1'
  generalize R.drop (n + 1) = Rd at f2 c2'
  -- other
  obtain ⟨y, zy, ey⟩ := hC.last cC
  have k4 := lawp_ok zy (sz_neg z1) (by omega)
  have z4 := sz_add zy (sz_neg z1)
  rw [← neg_fq mo, Int.zero_sub] at k4
  have f3 : dAdd (.lst C.dropLast) (.lst [fq (y + -mo)]) = some (.lst (C.dropLast ++ [fq (y + -mo)])) := dAdd_l (by rw [List.length_dropLast, List.length_singleton]; omega)
  have hO : FQ 600 (C.dropLast ++ [fq (y + -mo)]) := ((hC.sub (fun _ h => List.dropLast_subset _ h)).mono (by omega)).append (FQ.one (z4.mono (by omega)))
  have lO : (C.dropLast ++ [fq (y + -mo)]).length ≤ 7 := by rw [List.length_append, List.length_dropLast, List.length_singleton]; omega
  have c3' : cutD C none (some (-1)) = C.dropLast := cut_butlast
  generalize C.dropLast ++ [fq (y + -mo)] = O at f3 hO lO
  generalize C.dropLast = Cd at f3 c3'
  -- drawn
  obtain ⟨dr, ρ1, l1, ⟨s6, hs6, rfl⟩, l2⟩ := lc_inv (own := [11]) (f := mIter (mVar 1)) (g := gN 11) (t := M.pure true) (e := le__law_bent_0)
    (ρ := [.io s5, .fz (.lst R), .fz (fq ra), .fz (.int n), .fz (fq mo), .fz (fq sr), .fz (.lst C), .fz (.lst O), .un, .un, .un, .un]) (ρ0 := [.io s5, .fz (.lst R), .fz (fq ra), .fz (.int n), .fz (fq mo), .fz (fq sr), .fz (.lst C), .fz (.lst O), .un, .un, .un, .un]) (ds := R)
    (fun ρ => ∃ s, Strm s ∧ ρ = [.io s, .fz (.lst R), .fz (fq ra), .fz (.int n), .fz (fq mo), .fz (fq sr), .fz (.lst C), .fz (.lst O), .un, .un, .un, .un]) (fun _ y => ∃ q, Sz 600 q ∧ y = fq q) (by simp)
    (fun dd hd ρ hI => by
      obtain ⟨s, hs, rfl⟩ := hI
      obtain ⟨u, t1, q1, ht1, u0, u1⟩ := take_ok (most := 4) hs (by decide) (by decide)
      obtain ⟨w, t2, q2, ht2, w0, w1⟩ := take_ok (most := 4) ht1 (by decide) (by decide)
      have k := lawf_ok (a := u) (b := 1 + w) (by omega) (by omega)
      refine ⟨_, _, fq (Rat.divInt u (1 + w)), [.io t2, .fz (.lst R), .fz (fq ra), .fz (.int n), .fz (fq mo), .fz (fq sr), .fz (.lst C), .fz (.lst O), .un, .un, .un, .fz dd], rfl, rfl, ?_, ⟨t2, ht2, rfl⟩, _, (sz_div (n := 3) (by omega) (by omega) (by omega)).mono (by omega), rfl⟩
      simp -implicitDefEqProofs [le__law_bent_0_ap, q1, q2, k]) ⟨s5, hs5, rfl⟩ (by omega)
  have hD : FQ 600 dr := all2_right l2
  have lD := l2.len
  -- times the share
  obtain ⟨ts, ρ2, l3, rfl, l4⟩ := lc_inv (own := [11]) (f := mIter (mVar 1)) (g := gN 11) (t := M.pure true) (e := le__law_bent_1)
    (ρ := [.io s6, .fz (.lst R), .fz (fq ra), .fz (.int n), .fz (fq mo), .fz (fq sr), .fz (.lst C), .fz (.lst O), .ow (.lst dr), .un, .un, .un]) (ρ0 := [.io s6, .fz (.lst R), .fz (fq ra), .fz (.int n), .fz (fq mo), .fz (fq sr), .fz (.lst C), .fz (.lst O), .ow (.lst dr), .un, .un, .un]) (ds := R)
    (fun ρ => ρ = [.io s6, .fz (.lst R), .fz (fq ra), .fz (.int n), .fz (fq mo), .fz (fq sr), .fz (.lst C), .fz (.lst O), .ow (.lst dr), .un, .un, .un]) (fun _ y => ∃ q, Sz 600 q ∧ y = fq q) (by simp)
    (fun dd hd ρ hI => by
      subst hI
      obtain ⟨q, zq, rfl⟩ := hR dd hd
      have k := lawt_ok zq z2 (by omega)
      refine ⟨_, _, fq (q * sr), [.io s6, .fz (.lst R), .fz (fq ra), .fz (.int n), .fz (fq mo), .fz (fq sr), .fz (.lst C), .fz (.lst O), .ow (.lst dr), .un, .un, .fz (fq q)], rfl, rfl, ?_, rfl, _, (sz_mul zq z2).mono (by omega), rfl⟩
      simp -implicitDefEqProofs [le__law_bent_1_ap, k]) rfl (by omega)
  have hT : FQ 600 ts := all2_right l4
  have lT := l4.len
  -- the rows
  have f4 : dAdd (.lst R) (.lst [fq mo]) = some (.lst (R ++ [fq mo])) := dAdd_l (by rw [List.length_singleton]; omega)
  have f5 : dAdd (.lst R) (.lst (R.drop (R.length - 1))) = some (.lst (R ++ R.drop (R.length - 1))) := dAdd_l (by rw [List.length_drop]; omega)
  have hA : FQ 600 (R ++ [fq mo]) := (hR.mono (by omega)).append (FQ.one (z1.mono (by omega)))
  have lA : (R ++ [fq mo]).length ≤ 7 := by simp; omega
  have hB : FQ 600 (R ++ R.drop (R.length - 1)) := (hR.mono (by omega)).append ((hR.sub (fun _ h => List.mem_of_mem_drop h)).mono (by omega))
  have lB : (R ++ R.drop (R.length - 1)).length ≤ 7 := by simp; omega
  have hE : FQ 600 R.dropLast := (hR.sub (fun _ h => List.dropLast_subset _ h)).mono (by omega)
  have lE : R.dropLast.length ≤ 7 := by simp; omega
  have hV : FQ 600 R.reverse := (hR.sub (fun _ h => List.mem_reverse.mp h)).mono (by omega)
  have lV : R.reverse.length ≤ 7 := by simp; omega
  have c4' : cutD R (some (-1)) none = R.drop (R.length - 1) := cut_last
  have c5' : cutD R none (some (-1)) = R.dropLast := cut_butlast
  have m0 : dMul (.lst [.tup [.int 0, .int 1]]) (.int R.length) = some (.lst (List.replicate R.length (fq 0))) := by rw [dMul_l (by omega) (by simp), flat_one]; rfl
  have m1 : dMul (.lst [.tup [.int 1, .int 1]]) (.int R.length) = some (.lst (List.replicate R.length (fq 1))) := by rw [dMul_l (by omega) (by simp), flat_one]; rfl
  have hM0 : FQ 600 (List.replicate R.length (fq 0)) := FQ.rep (sz_zero.mono (by omega))
  have hM1 : FQ 600 (List.replicate R.length (fq 1)) := FQ.rep (sz_one.mono (by omega))
  have lM0 : (List.replicate R.length (fq 0)).length ≤ 7 := by simp; omega
  have lM1 : (List.replicate R.length (fq 1)).length ≤ 7 := by simp; omega
  generalize R ++ [fq mo] = A at f4 hA lA
  generalize R ++ R.drop (R.length - 1) = B at f5 hB lB
  generalize R.drop (R.length - 1) = Bd at f5 c4'
  generalize R.dropLast = E at hE lE c5'
  generalize List.replicate R.length (fq 0) = M0 at m0 hM0 lM0
  generalize List.replicate R.length (fq 1) = M1 at m1 hM1 lM1
  have G : ∀ x ∈ [D.lst R, .lst C, .lst O, .lst ts, .lst A, .lst E, .lst [], .lst R.reverse, .lst M0, .lst dr, .lst M1, .lst B], Good x := by
    intro x hx
    simp only [List.mem_cons, List.not_mem_nil, or_false] at hx
    rcases hx with h | h | h | h | h | h | h | h | h | h | h | h <;> subst h
    · exact good_of (hR.mono (by omega)) (by omega)
    · exact good_of (hC.mono (by omega)) (by omega)
    · exact good_of hO lO
    · exact good_of hT (by omega)
    · exact good_of hA lA
    · exact good_of hE lE
    · exact good_of (fun d hd => by cases hd) (by simp)
    · exact good_of hV lV
    · exact good_of hM0 lM0
    · exact good_of hD (by omega)
    · exact good_of hM1 lM1
    · exact good_of hB lB
  have f6 : dAdd (.lst [D.lst R, .lst C, .lst O, .lst ts, .lst A, .lst E, .lst []]) (.lst [.lst R.reverse, .lst M0, .lst dr, .lst M1, .lst B]) = some (.lst [D.lst R, .lst C, .lst O, .lst ts, .lst A, .lst E, .lst [], .lst R.reverse, .lst M0, .lst dr, .lst M1, .lst B]) := dAdd_l (by simp)
  have lr : [D.lst R, .lst C, .lst O, .lst ts, .lst A, .lst E, .lst [], .lst R.reverse, .lst M0, .lst dr, .lst M1, .lst B].length = 12 := rfl
  generalize [D.lst R, .lst C, .lst O, .lst ts, .lst A, .lst E, .lst [], .lst R.reverse, .lst M0, .lst dr, .lst M1, .lst B] = rows at G f6 lr
  have l5 := lc_map (own := [11]) (f := mIter (mVar 9)) (g := gN 11) (e := le__law_bent_2)
    (ρ := [.io s6, .fz (.lst R), .fz (fq ra), .fz (.int n), .fz (fq mo), .fz (fq sr), .fz (.lst C), .fz (.lst O), .fz (.lst dr), .fz (.lst rows), .un, .un]) (ρ0 := [.io s6, .fz (.lst R), .fz (fq ra), .fz (.int n), .fz (fq mo), .fz (fq sr), .fz (.lst C), .fz (.lst O), .fz (.lst dr), .fz (.lst rows), .un, .un]) (ds := rows)
    (fun x => .tup [x, fq ra]) (by simp) (fun d hd => by
      refine ⟨_, rfl, ?_, rfl⟩
      simp -implicitDefEqProofs [le__law_bent_2_ap, wipeE]) (by omega)
  have k5 := lawp_ok zr z1 (by omega)
  have k6 := lawt_ok zr z2 (by omega)
  have f7 : dAdd (.lst (rows.map fun x => .tup [x, fq ra])) (.lst [.tup [.lst R, fq (ra + mo)], .tup [.lst R, fq (ra * sr)], .tup [.lst R, .tup [.int 0, .int 1]], .tup [.lst R, .tup [.int 1, .int 1]]]) = some (.lst (rows.map (fun x => .tup [x, fq ra]) ++ [.tup [.lst R, fq (ra + mo)], .tup [.lst R, fq (ra * sr)], .tup [.lst R, .tup [.int 0, .int 1]], .tup [.lst R, .tup [.int 1, .int 1]]])) := dAdd_l (by simp [lr])
  refine ⟨rows.map (fun x => .tup [x, fq ra]) ++ [.tup [.lst R, fq (ra + mo)], .tup [.lst R, fq (ra * sr)], .tup [.lst R, .tup [.int 0, .int 1]], .tup [.lst R, .tup [.int 1, .int 1]]], s6, ?_, hs6, ?_⟩
  rotate_left 1
  · intro p hp
    rcases List.mem_append.mp hp with h | h
    · rw [List.mem_map] at h
      obtain ⟨x, hx, rfl⟩ := h
      exact ⟨x, ra, rfl, G x hx, zr.mono (by omega)⟩
    · have gR : Good (.lst R) := good_of (hR.mono (by omega)) (by omega)
      simp only [List.mem_cons, List.not_mem_nil, or_false] at h
      rcases h with h | h | h | h <;> subst h
      · exact ⟨_, _, rfl, gR, (sz_add zr z1).mono (by omega)⟩
      · exact ⟨_, _, rfl, gR, (sz_mul zr z2).mono (by omega)⟩
      · exact ⟨_, 0, rfl, gR, sz_zero.mono (by omega)⟩
      · exact ⟨_, 1, rfl, gR, sz_one.mono (by omega)⟩
  · unfold fn__law_bent runF fb__law_bent
    simp -implicitDefEqProofs [e1, e2, e3, e4, e5, k1, k2, ex, k3, c1', c2', f1, f2, c3', ey, ix0_fq, ix1_fq, k4, f3, l1, wipeE, l3, f4, c5', c4', f5, m0, m1, f6, l5, k5, k6, f7]
theorem says_ok (k : Bool) : fn__law_says [.bl k, .bl k] = .ok (.bl true) false .non := by
  unfold fn__law_says runF fb__law_says
  cases k <;> simp
theorem law_true : ∀ ns : List Int, ns.length ≤ 63 → (∀ z ∈ ns, PySem.Builtin.Int.intBits z ≤ 1048576) → fn_law [.scr ns] = .ok (.bl true) false .non := by
  intro ns _ _
  unfold fn_law runF fb_law
  obtain ⟨ρ', f1, _⟩ := forL_go (xs := rangeD 0 3) (h := gN 1) (b := lb_law_1)
    (ρ := [.fz (.scr ns), .un, .un, .un, .un, .un, .un, .un, .un, .un, .un, .un])
    (fun k ρ => ∃ v1 v2 v3 v4 v5 v6 v7 v8 v9 v10 v11, ρ = [.fz (.scr ns), v1, v2, v3, v4, v5, v6, v7, v8, v9, v10, v11])
    (fun k hk ρ hI => by
      obtain ⟨v1, v2, v3, v4, v5, v6, v7, v8, v9, v10, v11, rfl⟩ := hI
      rw [rangeD_get hk, Int.zero_add]
      rw [rangeD_len] at hk
      obtain ⟨s, e1, hs⟩ := stream_ok (ns := ns) (k := (k : Int)) (by omega) (by omega)
      obtain ⟨sp, s1, e2, hs1, p0, p6, z1, pp⟩ := speeds_ok hs
      obtain ⟨a, s2, e3, hs2, a0, a1⟩ := take_ok (most := 6) hs1 (by decide) (by decide)
      obtain ⟨b, s3, e4, hs3, b0, b1⟩ := take_ok (most := 4) hs2 (by decide) (by decide)
      have k1 := lawf_ok (a := 1 + a) (b := 2 + b) (by omega) (by omega)
      have zf : Sz 3 (Rat.divInt (1 + a) (2 + b)) := sz_div (by omega) (by omega) (by omega)
      have pf : 0 < Rat.divInt (1 + a) (2 + b) := divI_pos (by omega) (by omega)
      have hl := z1 _ (List.getLast_mem p0)
      have pl := pp _ (List.getLast_mem p0)
      have k2 := lawt_ok hl zf (by omega)
      have zl := sz_mul hl zf
      have ql := Rat.mul_pos pl pf
      generalize hld : sp.getLast p0 * Rat.divInt (1 + a) (2 + b) = ld at k2 zl ql
      obtain ⟨row, ra, e5, r0, r6, zr, zra⟩ := row_ok p0 p6 z1 pp ql zl
      obtain ⟨ps, s4, e6, hs4, hps⟩ := bent_ok hs3 (FQ.mk zr) (by simpa using r0) (by simpa using r6) zra
      obtain ⟨ρ2, f2, v5', v8', v9', v10', v11', hv5, rfl⟩ := forL_go (xs := ps) (h := gT 2 (gsC (gN 8) (gsC (gN 9) (gsN)))) (b := (lb_law_0))
        (ρ := [.fz (.scr ns), .fz (.int (k : Int)), .ow s4, .fz (fqs sp), .fz (fq ld), .ow (fqs sp), .fz (fqs row), .fz (fq ra), v8, v9, v10, v11])
        (fun k' ρ => ∃ v5 v8 v9 v10 v11, (v5 = .ow (fqs sp) ∨ v5 = .fz (fqs sp)) ∧ ρ = [.fz (.scr ns), .fz (.int (k : Int)), .ow s4, .fz (fqs sp), .fz (fq ld), v5, .fz (fqs row), .fz (fq ra), v8, v9, v10, v11])
        (fun k' hk' ρ hI => by
          obtain ⟨v5, v8, v9, v10, v11, hv5, rfl⟩ := hI
          obtain ⟨x, r, ep, ⟨sh, rfl, zsh, lsh⟩, zr2⟩ := hps _ (List.getElem_mem hk')
          rw [ep]
          have q1 := holds_ok p0 (by grind) z1 zl zsh zr2 lsh
          have q2 := right_ok p0 (by grind) z1 zl zsh zr2 lsh
          have q3 := says_ok (holds sp ld sh r)
          have q4 := dNe_self (gd_pair sh r)
          have q5 := dNe_self (gd_fqs sp)
          refine ⟨_, [.fz (.scr ns), .fz (.int (k : Int)), .ow s4, .fz (fqs sp), .fz (fq ld), .fz (fqs sp), .fz (fqs row), .fz (fq ra), .fz (fqs sh), .fz (fq r), .fz (.tup [fqs sh, fq r]), .fz (.bl (holds sp ld sh r))], rfl, ?_, _, _, _, _, _, .inr rfl, rfl⟩
          unfold fqs at q1 q2 q4 q5
          rcases hv5 with rfl | rfl <;> unfold fqs <;> simp -implicitDefEqProofs [lb_law_0_ap, q1, q2, q3, q4, q5]) ⟨_, _, _, _, _, .inl rfl, rfl⟩
      refine ⟨_, [.fz (.scr ns), .fz (.int (k : Int)), .ow s4, .fz (fqs sp), .fz (fq ld), v5', .fz (fqs row), .fz (fq ra), v8', v9', v10', v11'], rfl, ?_, _, _, _, _, _, _, _, _, _, _, _, rfl⟩
      unfold fqs at e2 e5 f2 ⊢
      simp -implicitDefEqProofs [lb_law_1_ap, e1, e2, e3, e4, k1, last_fq p0, k2, e5, e6, f2]) ⟨_, _, _, _, _, _, _, _, _, _, _, rfl⟩
  simp -implicitDefEqProofs [f1]
end K20
namespace K20
open PySem PySem.Spec PyProof.Rows L2 Dt
def topS (i : Nat) : Stmt := PySem.Challenge.pw_restlines_k20_line_row_holds.main.body.getD i (.Pass ⟨0, 0, 0, 0⟩)
abbrev s_common : Stmt := topS 6
abbrev s_fraction : Stmt := topS 7
abbrev s_plus : Stmt := topS 8
abbrev s_less : Stmt := topS 9
abbrev s_times : Stmt := topS 10
abbrev s_over : Stmt := topS 11
abbrev s_is_less : Stmt := topS 12
abbrev s_total : Stmt := topS 13
abbrev s_behind_last : Stmt := topS 15
abbrev s_line_row_holds : Stmt := topS 16
abbrev s__law_stream : Stmt := topS 18
abbrev s__law_take : Stmt := topS 19
abbrev s__law_fraction : Stmt := topS 20
abbrev s__law_plus : Stmt := topS 21
abbrev s__law_over : Stmt := topS 22
abbrev s__law_times : Stmt := topS 23
abbrev s__law_speeds : Stmt := topS 24
abbrev s__law_behind : Stmt := topS 25
abbrev s__law_together : Stmt := topS 26
abbrev s__law_right : Stmt := topS 27
abbrev s__law_row : Stmt := topS 28
abbrev s__law_bent : Stmt := topS 29
abbrev s__law_says : Stmt := topS 30
abbrev s_law : Stmt := topS 31
structure Txt (K : PySem.W.Frag) (mg : Str → Option Value) : Prop where
  f_common : FnIn K mg "common" s_common
  f_fraction : FnIn K mg "fraction" s_fraction
  f_plus : FnIn K mg "plus" s_plus
  f_less : FnIn K mg "less" s_less
  f_times : FnIn K mg "times" s_times
  f_over : FnIn K mg "over" s_over
  f_is_less : FnIn K mg "is_less" s_is_less
  f_total : FnIn K mg "total" s_total
  f_behind_last : FnIn K mg "behind_last" s_behind_last
  f_line_row_holds : FnIn K mg "line_row_holds" s_line_row_holds
  f__law_stream : FnIn K mg "_law_stream" s__law_stream
  f__law_take : FnIn K mg "_law_take" s__law_take
  f__law_fraction : FnIn K mg "_law_fraction" s__law_fraction
  f__law_plus : FnIn K mg "_law_plus" s__law_plus
  f__law_over : FnIn K mg "_law_over" s__law_over
  f__law_times : FnIn K mg "_law_times" s__law_times
  f__law_speeds : FnIn K mg "_law_speeds" s__law_speeds
  f__law_behind : FnIn K mg "_law_behind" s__law_behind
  f__law_together : FnIn K mg "_law_together" s__law_together
  f__law_right : FnIn K mg "_law_right" s__law_right
  f__law_row : FnIn K mg "_law_row" s__law_row
  f__law_bent : FnIn K mg "_law_bent" s__law_bent
  f__law_says : FnIn K mg "_law_says" s__law_says
  f_law : FnIn K mg "law" s_law
  b_abs : mg "abs" = none
  b_len : mg "len" = none
  b_list : mg "list" = none
  b_range : mg "range" = none
  c_NOUGHT : CnIn K mg "NOUGHT" (.tup [(.int 0), (.int 1)])
  c_ONE : CnIn K mg "ONE" (.tup [(.int 1), (.int 1)])
  x_NoFraction : ExC K mg "NoFraction"
abbrev N_common : List Str := ["one", "other"]
theorem sc_common : FnScope ["one", "other"] ["one", "other"] (defScope s_common) := ⟨rfl, rfl, rfl, by decide +kernel, rfl, by decide +kernel, by decide +kernel⟩
theorem ok_common {P : Program} {w : World} {K : PySem.W.Frag} {mg : Str → Option Value} {base : Heap} (T : Txt K mg) : Ok P w K mg base "common" 1 2 none Std.fn_common := by
  refine ok_mk (N := ["one", "other"]) (ps := ["one", "other"]) (fb := Std.fb_common) T.f_common sc_common (by decide) (fun _ _ _ _ _ _ us hl => match us, hl with | [_, _], _ => rfl) (fun f cdv A outer s H E hr tk po => ?_)
  exact svs_cons (sv_while po (et_ne hr.units (ev_var 1) (ev_int)) (svs_one (sv_par (i := 0) (j := 1) rfl sc_common.nd (ea_cons (ev_var 1) (ea_cons (ev_mod (ev_var 0) (ev_var 1)) (ea_nil))))))
    (svs_one (sv_ret (eo_move 0)))
abbrev N_fraction : List Str := ["above", "below", "share"]
theorem sc_fraction : FnScope ["above", "below", "share"] ["above", "below"] (defScope s_fraction) := ⟨rfl, rfl, rfl, by decide +kernel, rfl, by decide +kernel, by decide +kernel⟩
theorem ok_fraction {P : Program} {w : World} {K : PySem.W.Frag} {mg : Str → Option Value} {base : Heap} (T : Txt K mg) : Ok P w K mg base "fraction" 2 2 none Std.fn_fraction := by
  have g_common := ok_common (P := P) (w := w) (base := base) T
  refine ok_mk (N := ["above", "below", "share"]) (ps := ["above", "below"]) (fb := Std.fb_fraction) T.f_fraction sc_fraction (by decide) (fun _ _ _ _ _ _ us hl => match us, hl with | [_, _], _ => rfl) (fun f cdv A outer s H E hr tk po => ?_)
  exact svs_cons (sv_if (et_eq hr.units (ev_var 1) (ev_int)) (svs_one (sv_raise rfl tk T.x_NoFraction)) (svs_nil))
    (svs_cons (sv_set (i := 2) (eo_fn g_common hr tk (ex_v (ev_abs T.b_abs (ea_cons (ev_var 0) (ea_nil))) (ex_v (ev_abs T.b_abs (ea_cons (ev_var 1) (ea_nil))) (ex_nil)))) sc_fraction.nd)
    (svs_cons (sv_if (et_lt (ev_var 1) (ev_int)) (svs_one (sv_set (i := 2) (eo_of (ev_sub (ev_int) (ev_var 2))) sc_fraction.nd)) (svs_nil))
    (svs_one (sv_ret (eo_of (ev_tup (ea_cons (ev_fdiv (ev_var 0) (ev_var 2)) (ea_cons (ev_fdiv (ev_var 1) (ev_var 2)) (ea_nil)))))))))
abbrev N_plus : List Str := ["one", "other"]
theorem sc_plus : FnScope ["one", "other"] ["one", "other"] (defScope s_plus) := ⟨rfl, rfl, rfl, by decide +kernel, rfl, by decide +kernel, by decide +kernel⟩
theorem ok_plus {P : Program} {w : World} {K : PySem.W.Frag} {mg : Str → Option Value} {base : Heap} (T : Txt K mg) : Ok P w K mg base "plus" 3 2 none Std.fn_plus := by
  have g_fraction := ok_fraction (P := P) (w := w) (base := base) T
  refine ok_mk (N := ["one", "other"]) (ps := ["one", "other"]) (fb := Std.fb_plus) T.f_plus sc_plus (by decide) (fun _ _ _ _ _ _ us hl => match us, hl with | [_, _], _ => rfl) (fun f cdv A outer s H E hr tk po => ?_)
  exact svs_one (sv_ret (eo_fn g_fraction hr tk (ex_v (ev_add (ev_mul (ev_item (ev_var 0) (ev_int)) (ev_item (ev_var 1) (ev_int))) (ev_mul (ev_item (ev_var 1) (ev_int)) (ev_item (ev_var 0) (ev_int)))) (ex_v (ev_mul (ev_item (ev_var 0) (ev_int)) (ev_item (ev_var 1) (ev_int))) (ex_nil)))))
abbrev N_less : List Str := ["one", "other"]
theorem sc_less : FnScope ["one", "other"] ["one", "other"] (defScope s_less) := ⟨rfl, rfl, rfl, by decide +kernel, rfl, by decide +kernel, by decide +kernel⟩
theorem ok_less {P : Program} {w : World} {K : PySem.W.Frag} {mg : Str → Option Value} {base : Heap} (T : Txt K mg) : Ok P w K mg base "less" 3 2 none Std.fn_less := by
  have g_fraction := ok_fraction (P := P) (w := w) (base := base) T
  refine ok_mk (N := ["one", "other"]) (ps := ["one", "other"]) (fb := Std.fb_less) T.f_less sc_less (by decide) (fun _ _ _ _ _ _ us hl => match us, hl with | [_, _], _ => rfl) (fun f cdv A outer s H E hr tk po => ?_)
  exact svs_one (sv_ret (eo_fn g_fraction hr tk (ex_v (ev_sub (ev_mul (ev_item (ev_var 0) (ev_int)) (ev_item (ev_var 1) (ev_int))) (ev_mul (ev_item (ev_var 1) (ev_int)) (ev_item (ev_var 0) (ev_int)))) (ex_v (ev_mul (ev_item (ev_var 0) (ev_int)) (ev_item (ev_var 1) (ev_int))) (ex_nil)))))
abbrev N_times : List Str := ["one", "other"]
theorem sc_times : FnScope ["one", "other"] ["one", "other"] (defScope s_times) := ⟨rfl, rfl, rfl, by decide +kernel, rfl, by decide +kernel, by decide +kernel⟩
theorem ok_times {P : Program} {w : World} {K : PySem.W.Frag} {mg : Str → Option Value} {base : Heap} (T : Txt K mg) : Ok P w K mg base "times" 3 2 none Std.fn_times := by
  have g_fraction := ok_fraction (P := P) (w := w) (base := base) T
  refine ok_mk (N := ["one", "other"]) (ps := ["one", "other"]) (fb := Std.fb_times) T.f_times sc_times (by decide) (fun _ _ _ _ _ _ us hl => match us, hl with | [_, _], _ => rfl) (fun f cdv A outer s H E hr tk po => ?_)
  exact svs_one (sv_ret (eo_fn g_fraction hr tk (ex_v (ev_mul (ev_item (ev_var 0) (ev_int)) (ev_item (ev_var 1) (ev_int))) (ex_v (ev_mul (ev_item (ev_var 0) (ev_int)) (ev_item (ev_var 1) (ev_int))) (ex_nil)))))
abbrev N_over : List Str := ["one", "other"]
theorem sc_over : FnScope ["one", "other"] ["one", "other"] (defScope s_over) := ⟨rfl, rfl, rfl, by decide +kernel, rfl, by decide +kernel, by decide +kernel⟩
theorem ok_over {P : Program} {w : World} {K : PySem.W.Frag} {mg : Str → Option Value} {base : Heap} (T : Txt K mg) : Ok P w K mg base "over" 3 2 none Std.fn_over := by
  have g_fraction := ok_fraction (P := P) (w := w) (base := base) T
  refine ok_mk (N := ["one", "other"]) (ps := ["one", "other"]) (fb := Std.fb_over) T.f_over sc_over (by decide) (fun _ _ _ _ _ _ us hl => match us, hl with | [_, _], _ => rfl) (fun f cdv A outer s H E hr tk po => ?_)
  exact svs_one (sv_ret (eo_fn g_fraction hr tk (ex_v (ev_mul (ev_item (ev_var 0) (ev_int)) (ev_item (ev_var 1) (ev_int))) (ex_v (ev_mul (ev_item (ev_var 0) (ev_int)) (ev_item (ev_var 1) (ev_int))) (ex_nil)))))
abbrev N_is_less : List Str := ["one", "other"]
theorem sc_is_less : FnScope ["one", "other"] ["one", "other"] (defScope s_is_less) := ⟨rfl, rfl, rfl, by decide +kernel, rfl, by decide +kernel, by decide +kernel⟩
theorem ok_is_less {P : Program} {w : World} {K : PySem.W.Frag} {mg : Str → Option Value} {base : Heap} (T : Txt K mg) : Ok P w K mg base "is_less" 1 2 none Std.fn_is_less := by
  refine ok_mk (N := ["one", "other"]) (ps := ["one", "other"]) (fb := Std.fb_is_less) T.f_is_less sc_is_less (by decide) (fun _ _ _ _ _ _ us hl => match us, hl with | [_, _], _ => rfl) (fun f cdv A outer s H E hr tk po => ?_)
  exact svs_one (sv_ret (eo_of (ev_lt (ev_mul (ev_item (ev_var 0) (ev_int)) (ev_item (ev_var 1) (ev_int))) (ev_mul (ev_item (ev_var 1) (ev_int)) (ev_item (ev_var 0) (ev_int))))))
abbrev N_total : List Str := ["some", "found", "one"]
theorem sc_total : FnScope ["some", "found", "one"] ["some"] (defScope s_total) := ⟨rfl, rfl, rfl, by decide +kernel, rfl, by decide +kernel, by decide +kernel⟩
theorem ok_total {P : Program} {w : World} {K : PySem.W.Frag} {mg : Str → Option Value} {base : Heap} (T : Txt K mg) : Ok P w K mg base "total" 4 1 none Std.fn_total := by
  have g_plus := ok_plus (P := P) (w := w) (base := base) T
  refine ok_mk (N := ["some", "found", "one"]) (ps := ["some"]) (fb := Std.fb_total) T.f_total sc_total (by decide) (fun _ _ _ _ _ _ us hl => match us, hl with | [_], _ => rfl) (fun f cdv A outer s H E hr tk po => ?_)
  exact svs_cons (sv_set (i := 1) (eo_of (ev_const T.c_NOUGHT)) sc_total.nd)
    (svs_cons (sv_for po rfl (iv_list (ev_var 0)) (gv_name (i := 2) sc_total.nd) (svs_one (sv_set (i := 1) (eo_fn g_plus hr tk (ex_v (ev_var 1) (ex_v (ev_var 2) (ex_nil)))) sc_total.nd)))
    (svs_one (sv_ret (eo_move 1))))
abbrev N_behind_last : List Str := ["row", "ratio"]
theorem sc_behind_last : FnScope ["row", "ratio"] ["row", "ratio"] (defScope s_behind_last) := ⟨rfl, rfl, rfl, by decide +kernel, rfl, by decide +kernel, by decide +kernel⟩
theorem ok_behind_last {P : Program} {w : World} {K : PySem.W.Frag} {mg : Str → Option Value} {base : Heap} (T : Txt K mg) : Ok P w K mg base "behind_last" 4 2 none fn_behind_last := by
  have g_less := ok_less (P := P) (w := w) (base := base) T
  have g_times := ok_times (P := P) (w := w) (base := base) T
  have g_over := ok_over (P := P) (w := w) (base := base) T
  refine ok_mk (N := ["row", "ratio"]) (ps := ["row", "ratio"]) (fb := fb_behind_last) T.f_behind_last sc_behind_last (by decide) (fun _ _ _ _ _ _ us hl => match us, hl with | [_, _], _ => rfl) (fun f cdv A outer s H E hr tk po => ?_)
  exact svs_one (sv_ret (eo_fn g_over hr tk (ex_v (ev_of (eo_fn g_times hr tk (ex_v (ev_item (ev_var 0) (ev_neg (ev_int))) (ex_v (ev_var 1) (ex_nil))))) (ex_v (ev_of (eo_fn g_less hr tk (ex_v (ev_const T.c_ONE) (ex_v (ev_var 1) (ex_nil))))) (ex_nil)))))
abbrev N_line_row_holds : List Str := ["speeds", "load", "row", "n", "shares", "ratio"]
theorem sc_line_row_holds : FnScope ["speeds", "load", "row", "n", "shares", "ratio"] ["speeds", "load", "row"] (defScope s_line_row_holds) := ⟨rfl, rfl, rfl, by decide +kernel, rfl, by decide +kernel, by decide +kernel⟩
theorem ok_line_row_holds {P : Program} {w : World} {K : PySem.W.Frag} {mg : Str → Option Value} {base : Heap} (T : Txt K mg) : Ok P w K mg base "line_row_holds" 5 3 none fn_line_row_holds := by
  have g_over := ok_over (P := P) (w := w) (base := base) T
  have g_is_less := ok_is_less (P := P) (w := w) (base := base) T
  have g_times := ok_times (P := P) (w := w) (base := base) T
  have g_behind_last := ok_behind_last (P := P) (w := w) (base := base) T
  have g_total := ok_total (P := P) (w := w) (base := base) T
  have g_plus := ok_plus (P := P) (w := w) (base := base) T
  refine ok_mk (N := ["speeds", "load", "row", "n", "shares", "ratio"]) (ps := ["speeds", "load", "row"]) (fb := fb_line_row_holds) T.f_line_row_holds sc_line_row_holds (by decide) (fun _ _ _ _ _ _ us hl => match us, hl with | [_, _, _], _ => rfl) (fun f cdv A outer s H E hr tk po => ?_)
  exact svs_cons (sv_asg (ev_var 2) (gv_tup rfl (gvs_cons (gv_name (i := 4) sc_line_row_holds.nd) (gvs_cons (gv_name (i := 5) sc_line_row_holds.nd) (gvs_nil)))))
    (svs_cons (sv_if (et_w (ew_or (et_ne hr.units (ev_len T.b_len (ea_cons (ev_var 4) (ea_nil))) (ev_len T.b_len (ea_cons (ev_var 0) (ea_nil)))) (ew_or (et_ne hr.units (ev_var 5) (ev_of (eo_fn g_over hr tk (ex_v (ev_var 1) (ex_v (ev_item (ev_var 0) (ev_neg (ev_int))) (ex_nil)))))) (ew_or1 (et_not (et_val (ev_of (eo_fn g_is_less hr tk (ex_v (ev_var 5) (ex_v (ev_const T.c_ONE) (ex_nil))))))))))) (svs_one (sv_ret (eo_of (ev_bl)))) (svs_nil))
    (svs_cons (sv_for po rfl (iv_range2 rfl T.b_range (ea_cons (ev_int) (ea_cons (ev_len T.b_len (ea_cons (ev_var 4) (ea_nil))) (ea_nil)))) (gv_name (i := 3) sc_line_row_holds.nd) (svs_one (sv_if (et_ne hr.units (ev_of (eo_fn g_times hr tk (ex_v (ev_item (ev_var 4) (ev_var 3)) (ex_v (ev_item (ev_var 0) (ev_sub (ev_var 3) (ev_int))) (ex_nil))))) (ev_of (eo_fn g_times hr tk (ex_v (ev_var 1) (ex_v (ev_item (ev_var 4) (ev_sub (ev_var 3) (ev_int))) (ex_nil)))))) (svs_one (sv_ret (eo_of (ev_bl)))) (svs_nil))))
    (svs_one (sv_ret (eo_of (ev_eq hr.units (ev_of (eo_fn g_plus hr tk (ex_v (ev_of (eo_fn g_total hr tk (ex_v (ev_var 4) (ex_nil)))) (ex_v (ev_of (eo_fn g_behind_last hr tk (ex_v (ev_var 4) (ex_v (ev_var 5) (ex_nil))))) (ex_nil))))) (ev_const T.c_ONE)))))))
abbrev N__law_stream : List Str := ["_law_script", "_law_k", "_law_cell", "_law_mixed"]
theorem sc__law_stream : FnScope ["_law_script", "_law_k", "_law_cell", "_law_mixed"] ["_law_script", "_law_k"] (defScope s__law_stream) := ⟨rfl, rfl, rfl, by decide +kernel, rfl, by decide +kernel, by decide +kernel⟩
theorem ok__law_stream {P : Program} {w : World} {K : PySem.W.Frag} {mg : Str → Option Value} {base : Heap} (T : Txt K mg) : Ok P w K mg base "_law_stream" 1 2 none Std.fn__law_stream := by
  refine ok_mk (N := ["_law_script", "_law_k", "_law_cell", "_law_mixed"]) (ps := ["_law_script", "_law_k"]) (fb := Std.fb__law_stream) T.f__law_stream sc__law_stream (by decide) (fun _ _ _ _ _ _ us hl => match us, hl with | [_, _], _ => rfl) (fun f cdv A outer s H E hr tk po => ?_)
  exact svs_cons (sv_if (et_lt (ev_var 1) (ev_len T.b_len (ea_cons (ev_var 0) (ea_nil)))) (svs_cons (sv_set (i := 2) (eo_of (ev_item (ev_var 0) (ev_var 1))) sc__law_stream.nd)
    (svs_cons (sv_set (i := 3) (eo_of (ev_add (ev_add (ev_mod (ev_var 2) (ev_int)) (ev_mul (ev_var 1) (ev_var 1))) (ev_int))) sc__law_stream.nd)
    (svs_cons (sv_if (et_lt (ev_var 2) (ev_pow (ev_int) (ev_int))) (svs_one (sv_set (i := 2) (eo_of (ev_int)) sc__law_stream.nd)) (svs_nil))
    (svs_one (sv_ret (eo_lst (ea_cons (ev_var 2) (ea_cons (ev_var 3) (ea_nil))))))))) (svs_nil))
    (svs_one (sv_ret (eo_lst (ea_cons (ev_int) (ea_cons (ev_add (ev_mul (ev_var 1) (ev_var 1)) (ev_int)) (ea_nil))))))
abbrev N__law_take : List Str := ["_law_stream_here", "_law_most", "_law_digit"]
theorem sc__law_take : FnScope ["_law_stream_here", "_law_most", "_law_digit"] ["_law_stream_here", "_law_most"] (defScope s__law_take) := ⟨rfl, rfl, rfl, by decide +kernel, rfl, by decide +kernel, by decide +kernel⟩
theorem ok__law_take {P : Program} {w : World} {K : PySem.W.Frag} {mg : Str → Option Value} {base : Heap} (T : Txt K mg) : Ok P w K mg base "_law_take" 1 2 (some 0) Std.fn__law_take := by
  refine ok_mk (N := ["_law_stream_here", "_law_most", "_law_digit"]) (ps := ["_law_stream_here", "_law_most"]) (fb := Std.fb__law_take) T.f__law_take sc__law_take (by decide) (fun _ _ _ _ _ _ us hl => match us, hl with | [_, _], _ => rfl) (fun f cdv A outer s H E hr tk po => ?_)
  exact svs_cons (sv_if (et_eq hr.units (ev_peek (i := 0) (ev_int)) (ev_int)) (svs_cons (sv_putAt (i := 0) (ev_mod (ev_add (ev_mul (ev_peek (i := 0) (ev_int)) (ev_int)) (ev_int)) (ev_int)) (ev_int))
    (svs_one (sv_ret (eo_of (ev_mod (ev_mod (ev_mul (ev_peek (i := 0) (ev_int)) (ev_peek (i := 0) (ev_int))) (ev_int)) (ev_var 1)))))) (svs_nil))
    (svs_cons (sv_set (i := 2) (eo_of (ev_mod (ev_peek (i := 0) (ev_int)) (ev_var 1))) sc__law_take.nd)
    (svs_cons (sv_putAt (i := 0) (ev_fdiv (ev_peek (i := 0) (ev_int)) (ev_var 1)) (ev_int))
    (svs_one (sv_ret (eo_move 2)))))
abbrev N__law_fraction : List Str := ["_law_above", "_law_below", "_law_one", "_law_other"]
theorem sc__law_fraction : FnScope ["_law_above", "_law_below", "_law_one", "_law_other"] ["_law_above", "_law_below"] (defScope s__law_fraction) := ⟨rfl, rfl, rfl, by decide +kernel, rfl, by decide +kernel, by decide +kernel⟩
theorem ok__law_fraction {P : Program} {w : World} {K : PySem.W.Frag} {mg : Str → Option Value} {base : Heap} (T : Txt K mg) : Ok P w K mg base "_law_fraction" 1 2 none Std.fn__law_fraction := by
  refine ok_mk (N := ["_law_above", "_law_below", "_law_one", "_law_other"]) (ps := ["_law_above", "_law_below"]) (fb := Std.fb__law_fraction) T.f__law_fraction sc__law_fraction (by decide) (fun _ _ _ _ _ _ us hl => match us, hl with | [_, _], _ => rfl) (fun f cdv A outer s H E hr tk po => ?_)
  exact svs_cons (sv_set (i := 2) (eo_of (ev_abs T.b_abs (ea_cons (ev_var 0) (ea_nil)))) sc__law_fraction.nd)
    (svs_cons (sv_set (i := 3) (eo_of (ev_var 1)) sc__law_fraction.nd)
    (svs_cons (sv_while po (et_gt (ev_var 3) (ev_int)) (svs_one (sv_par (i := 2) (j := 3) rfl sc__law_fraction.nd (ea_cons (ev_var 3) (ea_cons (ev_mod (ev_var 2) (ev_var 3)) (ea_nil))))))
    (svs_one (sv_ret (eo_of (ev_tup (ea_cons (ev_fdiv (ev_var 0) (ev_var 2)) (ea_cons (ev_fdiv (ev_var 1) (ev_var 2)) (ea_nil)))))))))
abbrev N__law_plus : List Str := ["_law_one", "_law_other"]
theorem sc__law_plus : FnScope ["_law_one", "_law_other"] ["_law_one", "_law_other"] (defScope s__law_plus) := ⟨rfl, rfl, rfl, by decide +kernel, rfl, by decide +kernel, by decide +kernel⟩
theorem ok__law_plus {P : Program} {w : World} {K : PySem.W.Frag} {mg : Str → Option Value} {base : Heap} (T : Txt K mg) : Ok P w K mg base "_law_plus" 2 2 none Std.fn__law_plus := by
  have g__law_fraction := ok__law_fraction (P := P) (w := w) (base := base) T
  refine ok_mk (N := ["_law_one", "_law_other"]) (ps := ["_law_one", "_law_other"]) (fb := Std.fb__law_plus) T.f__law_plus sc__law_plus (by decide) (fun _ _ _ _ _ _ us hl => match us, hl with | [_, _], _ => rfl) (fun f cdv A outer s H E hr tk po => ?_)
  exact svs_one (sv_ret (eo_fn g__law_fraction hr tk (ex_v (ev_add (ev_mul (ev_item (ev_var 0) (ev_int)) (ev_item (ev_var 1) (ev_int))) (ev_mul (ev_item (ev_var 1) (ev_int)) (ev_item (ev_var 0) (ev_int)))) (ex_v (ev_mul (ev_item (ev_var 0) (ev_int)) (ev_item (ev_var 1) (ev_int))) (ex_nil)))))
abbrev N__law_over : List Str := ["_law_one", "_law_other"]
theorem sc__law_over : FnScope ["_law_one", "_law_other"] ["_law_one", "_law_other"] (defScope s__law_over) := ⟨rfl, rfl, rfl, by decide +kernel, rfl, by decide +kernel, by decide +kernel⟩
theorem ok__law_over {P : Program} {w : World} {K : PySem.W.Frag} {mg : Str → Option Value} {base : Heap} (T : Txt K mg) : Ok P w K mg base "_law_over" 2 2 none Std.fn__law_over := by
  have g__law_fraction := ok__law_fraction (P := P) (w := w) (base := base) T
  refine ok_mk (N := ["_law_one", "_law_other"]) (ps := ["_law_one", "_law_other"]) (fb := Std.fb__law_over) T.f__law_over sc__law_over (by decide) (fun _ _ _ _ _ _ us hl => match us, hl with | [_, _], _ => rfl) (fun f cdv A outer s H E hr tk po => ?_)
  exact svs_cons (sv_if (et_lt (ev_item (ev_var 1) (ev_int)) (ev_int)) (svs_one (sv_ret (eo_fn g__law_fraction hr tk (ex_v (ev_sub (ev_int) (ev_mul (ev_item (ev_var 0) (ev_int)) (ev_item (ev_var 1) (ev_int)))) (ex_v (ev_sub (ev_int) (ev_mul (ev_item (ev_var 0) (ev_int)) (ev_item (ev_var 1) (ev_int)))) (ex_nil)))))) (svs_nil))
    (svs_one (sv_ret (eo_fn g__law_fraction hr tk (ex_v (ev_mul (ev_item (ev_var 0) (ev_int)) (ev_item (ev_var 1) (ev_int))) (ex_v (ev_mul (ev_item (ev_var 0) (ev_int)) (ev_item (ev_var 1) (ev_int))) (ex_nil))))))
abbrev N__law_times : List Str := ["_law_one", "_law_other"]
theorem sc__law_times : FnScope ["_law_one", "_law_other"] ["_law_one", "_law_other"] (defScope s__law_times) := ⟨rfl, rfl, rfl, by decide +kernel, rfl, by decide +kernel, by decide +kernel⟩
theorem ok__law_times {P : Program} {w : World} {K : PySem.W.Frag} {mg : Str → Option Value} {base : Heap} (T : Txt K mg) : Ok P w K mg base "_law_times" 2 2 none Std.fn__law_times := by
  have g__law_fraction := ok__law_fraction (P := P) (w := w) (base := base) T
  refine ok_mk (N := ["_law_one", "_law_other"]) (ps := ["_law_one", "_law_other"]) (fb := Std.fb__law_times) T.f__law_times sc__law_times (by decide) (fun _ _ _ _ _ _ us hl => match us, hl with | [_, _], _ => rfl) (fun f cdv A outer s H E hr tk po => ?_)
  exact svs_one (sv_ret (eo_fn g__law_fraction hr tk (ex_v (ev_mul (ev_item (ev_var 0) (ev_int)) (ev_item (ev_var 1) (ev_int))) (ex_v (ev_mul (ev_item (ev_var 0) (ev_int)) (ev_item (ev_var 1) (ev_int))) (ex_nil)))))
abbrev N__law_speeds : List Str := ["_law_stream_here", "_law_speeds_here", "_law_k", "_law_below", "_law_one"]
theorem sc__law_speeds : FnScope ["_law_stream_here", "_law_speeds_here", "_law_k", "_law_below", "_law_one"] ["_law_stream_here"] (defScope s__law_speeds) := ⟨rfl, rfl, rfl, by decide +kernel, rfl, by decide +kernel, by decide +kernel⟩
theorem ok__law_speeds {P : Program} {w : World} {K : PySem.W.Frag} {mg : Str → Option Value} {base : Heap} (T : Txt K mg) : Ok P w K mg base "_law_speeds" 2 1 (some 0) fn__law_speeds := by
  have g__law_take := ok__law_take (P := P) (w := w) (base := base) T
  have g__law_fraction := ok__law_fraction (P := P) (w := w) (base := base) T
  refine ok_mk (N := ["_law_stream_here", "_law_speeds_here", "_law_k", "_law_below", "_law_one"]) (ps := ["_law_stream_here"]) (fb := fb__law_speeds) T.f__law_speeds sc__law_speeds (by decide) (fun _ _ _ _ _ _ us hl => match us, hl with | [_], _ => rfl) (fun f cdv A outer s H E hr tk po => ?_)
  exact svs_cons (sv_set (i := 1) (eo_lst (ea_cons (ev_add (ev_int) (ev_of (eo_fn g__law_take hr tk (ex_s 0 (ex_v (ev_int) (ex_nil)))))) (ea_nil))) sc__law_speeds.nd)
    (svs_cons (sv_for po rfl (iv_range1 rfl T.b_range (ea_cons (ev_of (eo_fn g__law_take hr tk (ex_s 0 (ex_v (ev_int) (ex_nil))))) (ea_nil))) (gv_name (i := 2) sc__law_speeds.nd) (svs_one (sv_app (i := 1) (ev_add (ev_peek (i := 1) (ev_neg (ev_int))) (ev_of (eo_fn g__law_take hr tk (ex_s 0 (ex_v (ev_int) (ex_nil)))))))))
    (svs_cons (sv_set (i := 3) (eo_of (ev_add (ev_int) (ev_of (eo_fn g__law_take hr tk (ex_s 0 (ex_v (ev_int) (ex_nil))))))) sc__law_speeds.nd)
    (svs_one (sv_ret (eo_lc (own := [("_law_one", 4)]) rfl sc__law_speeds.nd (iv_list (ev_var 1)) (blkOk_by (own := [("_law_one", 4)]) (N := N__law_speeds) (sc := (defScope s__law_speeds)) (by decide +kernel)) (fun _ _ _ _ _ => gv_name (i := 4) sc__law_speeds.nd) (fun _ _ _ _ _ => ets_nil) (fun _ _ _ _ _ => ev_of (eo_fn g__law_fraction hr takes0 (ex_v (ev_var 4) (ex_v (ev_var 3) (ex_nil))))))))))
abbrev N__law_behind : List Str := ["_law_row_here", "_law_ratio"]
theorem sc__law_behind : FnScope ["_law_row_here", "_law_ratio"] ["_law_row_here", "_law_ratio"] (defScope s__law_behind) := ⟨rfl, rfl, rfl, by decide +kernel, rfl, by decide +kernel, by decide +kernel⟩
theorem ok__law_behind {P : Program} {w : World} {K : PySem.W.Frag} {mg : Str → Option Value} {base : Heap} (T : Txt K mg) : Ok P w K mg base "_law_behind" 3 2 none fn__law_behind := by
  have g__law_plus := ok__law_plus (P := P) (w := w) (base := base) T
  have g__law_times := ok__law_times (P := P) (w := w) (base := base) T
  have g__law_over := ok__law_over (P := P) (w := w) (base := base) T
  refine ok_mk (N := ["_law_row_here", "_law_ratio"]) (ps := ["_law_row_here", "_law_ratio"]) (fb := fb__law_behind) T.f__law_behind sc__law_behind (by decide) (fun _ _ _ _ _ _ us hl => match us, hl with | [_, _], _ => rfl) (fun f cdv A outer s H E hr tk po => ?_)
  exact svs_one (sv_ret (eo_fn g__law_over hr tk (ex_v (ev_of (eo_fn g__law_times hr tk (ex_v (ev_item (ev_var 0) (ev_neg (ev_int))) (ex_v (ev_var 1) (ex_nil))))) (ex_v (ev_of (eo_fn g__law_plus hr tk (ex_v (ev_tup (ea_cons (ev_int) (ea_cons (ev_int) (ea_nil)))) (ex_v (ev_tup (ea_cons (ev_sub (ev_int) (ev_item (ev_var 1) (ev_int))) (ea_cons (ev_item (ev_var 1) (ev_int)) (ea_nil)))) (ex_nil))))) (ex_nil)))))
abbrev N__law_together : List Str := ["_law_row_here", "_law_found", "_law_one"]
theorem sc__law_together : FnScope ["_law_row_here", "_law_found", "_law_one"] ["_law_row_here"] (defScope s__law_together) := ⟨rfl, rfl, rfl, by decide +kernel, rfl, by decide +kernel, by decide +kernel⟩
theorem ok__law_together {P : Program} {w : World} {K : PySem.W.Frag} {mg : Str → Option Value} {base : Heap} (T : Txt K mg) : Ok P w K mg base "_law_together" 3 1 none fn__law_together := by
  have g__law_plus := ok__law_plus (P := P) (w := w) (base := base) T
  refine ok_mk (N := ["_law_row_here", "_law_found", "_law_one"]) (ps := ["_law_row_here"]) (fb := fb__law_together) T.f__law_together sc__law_together (by decide) (fun _ _ _ _ _ _ us hl => match us, hl with | [_], _ => rfl) (fun f cdv A outer s H E hr tk po => ?_)
  exact svs_cons (sv_set (i := 1) (eo_of (ev_tup (ea_cons (ev_int) (ea_cons (ev_int) (ea_nil))))) sc__law_together.nd)
    (svs_cons (sv_for po rfl (iv_list (ev_var 0)) (gv_name (i := 2) sc__law_together.nd) (svs_one (sv_set (i := 1) (eo_fn g__law_plus hr tk (ex_v (ev_var 1) (ex_v (ev_var 2) (ex_nil)))) sc__law_together.nd)))
    (svs_one (sv_ret (eo_move 1))))
abbrev N__law_right : List Str := ["_law_speeds_here", "_law_load", "_law_row_here", "_law_ratio", "_law_n"]
theorem sc__law_right : FnScope ["_law_speeds_here", "_law_load", "_law_row_here", "_law_ratio", "_law_n"] ["_law_speeds_here", "_law_load", "_law_row_here", "_law_ratio"] (defScope s__law_right) := ⟨rfl, rfl, rfl, by decide +kernel, rfl, by decide +kernel, by decide +kernel⟩
theorem ok__law_right {P : Program} {w : World} {K : PySem.W.Frag} {mg : Str → Option Value} {base : Heap} (T : Txt K mg) : Ok P w K mg base "_law_right" 4 4 none fn__law_right := by
  have g__law_over := ok__law_over (P := P) (w := w) (base := base) T
  have g__law_times := ok__law_times (P := P) (w := w) (base := base) T
  have g__law_behind := ok__law_behind (P := P) (w := w) (base := base) T
  have g__law_together := ok__law_together (P := P) (w := w) (base := base) T
  have g__law_plus := ok__law_plus (P := P) (w := w) (base := base) T
  refine ok_mk (N := ["_law_speeds_here", "_law_load", "_law_row_here", "_law_ratio", "_law_n"]) (ps := ["_law_speeds_here", "_law_load", "_law_row_here", "_law_ratio"]) (fb := fb__law_right) T.f__law_right sc__law_right (by decide) (fun _ _ _ _ _ _ us hl => match us, hl with | [_, _, _, _], _ => rfl) (fun f cdv A outer s H E hr tk po => ?_)
  exact svs_cons (sv_if (et_w (ew_or (et_ne hr.units (ev_len T.b_len (ea_cons (ev_var 2) (ea_nil))) (ev_len T.b_len (ea_cons (ev_var 0) (ea_nil)))) (ew_or (et_ne hr.units (ev_var 3) (ev_of (eo_fn g__law_over hr tk (ex_v (ev_var 1) (ex_v (ev_item (ev_var 0) (ev_neg (ev_int))) (ex_nil)))))) (ew_or1 (et_ge (ev_item (ev_var 3) (ev_int)) (ev_item (ev_var 3) (ev_int))))))) (svs_one (sv_ret (eo_of (ev_bl)))) (svs_nil))
    (svs_cons (sv_for po rfl (iv_range2 rfl T.b_range (ea_cons (ev_int) (ea_cons (ev_len T.b_len (ea_cons (ev_var 2) (ea_nil))) (ea_nil)))) (gv_name (i := 4) sc__law_right.nd) (svs_one (sv_if (et_ne hr.units (ev_of (eo_fn g__law_times hr tk (ex_v (ev_item (ev_var 2) (ev_var 4)) (ex_v (ev_item (ev_var 0) (ev_sub (ev_var 4) (ev_int))) (ex_nil))))) (ev_of (eo_fn g__law_times hr tk (ex_v (ev_var 1) (ex_v (ev_item (ev_var 2) (ev_sub (ev_var 4) (ev_int))) (ex_nil)))))) (svs_one (sv_ret (eo_of (ev_bl)))) (svs_nil))))
    (svs_one (sv_ret (eo_of (ev_eq hr.units (ev_of (eo_fn g__law_plus hr tk (ex_v (ev_of (eo_fn g__law_together hr tk (ex_v (ev_var 2) (ex_nil)))) (ex_v (ev_of (eo_fn g__law_behind hr tk (ex_v (ev_var 2) (ex_v (ev_var 3) (ex_nil))))) (ex_nil))))) (ev_tup (ea_cons (ev_int) (ea_cons (ev_int) (ea_nil)))))))))
abbrev N__law_row : List Str := ["_law_speeds_here", "_law_load", "_law_row_here", "_law_one", "_law_ratio", "_law_full"]
theorem sc__law_row : FnScope ["_law_speeds_here", "_law_load", "_law_row_here", "_law_one", "_law_ratio", "_law_full"] ["_law_speeds_here", "_law_load"] (defScope s__law_row) := ⟨rfl, rfl, rfl, by decide +kernel, rfl, by decide +kernel, by decide +kernel⟩
theorem ok__law_row {P : Program} {w : World} {K : PySem.W.Frag} {mg : Str → Option Value} {base : Heap} (T : Txt K mg) : Ok P w K mg base "_law_row" 4 2 none fn__law_row := by
  have g__law_times := ok__law_times (P := P) (w := w) (base := base) T
  have g__law_over := ok__law_over (P := P) (w := w) (base := base) T
  have g__law_behind := ok__law_behind (P := P) (w := w) (base := base) T
  have g__law_together := ok__law_together (P := P) (w := w) (base := base) T
  have g__law_plus := ok__law_plus (P := P) (w := w) (base := base) T
  refine ok_mk (N := ["_law_speeds_here", "_law_load", "_law_row_here", "_law_one", "_law_ratio", "_law_full"]) (ps := ["_law_speeds_here", "_law_load"]) (fb := fb__law_row) T.f__law_row sc__law_row (by decide) (fun _ _ _ _ _ _ us hl => match us, hl with | [_, _], _ => rfl) (fun f cdv A outer s H E hr tk po => ?_)
  exact svs_cons (sv_set (i := 2) (eo_lst (ea_cons (ev_tup (ea_cons (ev_int) (ea_cons (ev_int) (ea_nil)))) (ea_nil))) sc__law_row.nd)
    (svs_cons (sv_for po rfl (iv_list (ev_of (eo_slice (ev_var 0) (ep_none) (ep_some (ev_neg (ev_int)))))) (gv_name (i := 3) sc__law_row.nd) (svs_one (sv_app (i := 2) (ev_of (eo_fn g__law_over hr tk (ex_v (ev_of (eo_fn g__law_times hr tk (ex_v (ev_peek (i := 2) (ev_neg (ev_int))) (ex_v (ev_var 1) (ex_nil))))) (ex_v (ev_var 3) (ex_nil))))))))
    (svs_cons (sv_set (i := 4) (eo_fn g__law_over hr tk (ex_v (ev_var 1) (ex_v (ev_item (ev_var 0) (ev_neg (ev_int))) (ex_nil)))) sc__law_row.nd)
    (svs_cons (sv_if (et_ge (ev_item (ev_var 4) (ev_int)) (ev_item (ev_var 4) (ev_int))) (svs_one (sv_ret (eo_of (ev_tup (ea_cons (ev_var 2) (ea_cons (ev_var 4) (ea_nil))))))) (svs_nil))
    (svs_cons (sv_set (i := 5) (eo_fn g__law_plus hr tk (ex_v (ev_of (eo_fn g__law_together hr tk (ex_v (ev_var 2) (ex_nil)))) (ex_v (ev_of (eo_fn g__law_behind hr tk (ex_v (ev_var 2) (ex_v (ev_var 4) (ex_nil))))) (ex_nil)))) sc__law_row.nd)
    (svs_one (sv_ret (eo_of (ev_tup (ea_cons (ev_of (eo_lc (own := [("_law_one", 3)]) rfl sc__law_row.nd (iv_list (ev_var 2)) (blkOk_by (own := [("_law_one", 3)]) (N := N__law_row) (sc := (defScope s__law_row)) (by decide +kernel)) (fun _ _ _ _ _ => gv_name (i := 3) sc__law_row.nd) (fun _ _ _ _ _ => ets_nil) (fun _ _ _ _ _ => ev_of (eo_fn g__law_over hr takes0 (ex_v (ev_var 3) (ex_v (ev_var 5) (ex_nil))))))) (ea_cons (ev_var 4) (ea_nil)))))))))))
abbrev N__law_bent : List Str := ["_law_stream_here", "_law_row_here", "_law_ratio", "_law_at", "_law_more", "_law_share", "_law_changed", "_law_other", "_law_drawn", "_law_rows", "_law_found", "_law_one"]
theorem sc__law_bent : FnScope ["_law_stream_here", "_law_row_here", "_law_ratio", "_law_at", "_law_more", "_law_share", "_law_changed", "_law_other", "_law_drawn", "_law_rows", "_law_found", "_law_one"] ["_law_stream_here", "_law_row_here", "_law_ratio"] (defScope s__law_bent) := ⟨rfl, rfl, rfl, by decide +kernel, rfl, by decide +kernel, by decide +kernel⟩
theorem ok__law_bent {P : Program} {w : World} {K : PySem.W.Frag} {mg : Str → Option Value} {base : Heap} (T : Txt K mg) : Ok P w K mg base "_law_bent" 3 3 (some 0) fn__law_bent := by
  have g__law_take := ok__law_take (P := P) (w := w) (base := base) T
  have g__law_fraction := ok__law_fraction (P := P) (w := w) (base := base) T
  have g__law_plus := ok__law_plus (P := P) (w := w) (base := base) T
  have g__law_times := ok__law_times (P := P) (w := w) (base := base) T
  refine ok_mk (N := ["_law_stream_here", "_law_row_here", "_law_ratio", "_law_at", "_law_more", "_law_share", "_law_changed", "_law_other", "_law_drawn", "_law_rows", "_law_found", "_law_one"]) (ps := ["_law_stream_here", "_law_row_here", "_law_ratio"]) (fb := fb__law_bent) T.f__law_bent sc__law_bent (by decide) (fun _ _ _ _ _ _ us hl => match us, hl with | [_, _, _], _ => rfl) (fun f cdv A outer s H E hr tk po => ?_)
  exact svs_cons (sv_set (i := 3) (eo_fn g__law_take hr tk (ex_s 0 (ex_v (ev_len T.b_len (ea_cons (ev_var 1) (ea_nil))) (ex_nil)))) sc__law_bent.nd)
    (svs_cons (sv_set (i := 4) (eo_fn g__law_fraction hr tk (ex_v (ev_sub (ev_of (eo_fn g__law_take hr tk (ex_s 0 (ex_v (ev_int) (ex_nil))))) (ev_int)) (ex_v (ev_add (ev_int) (ev_of (eo_fn g__law_take hr tk (ex_s 0 (ex_v (ev_int) (ex_nil)))))) (ex_nil)))) sc__law_bent.nd)
    (svs_cons (sv_set (i := 5) (eo_fn g__law_fraction hr tk (ex_v (ev_of (eo_fn g__law_take hr tk (ex_s 0 (ex_v (ev_int) (ex_nil))))) (ex_v (ev_add (ev_int) (ev_of (eo_fn g__law_take hr tk (ex_s 0 (ex_v (ev_int) (ex_nil)))))) (ex_nil)))) sc__law_bent.nd)
    (svs_cons (sv_set (i := 6) (eo_of (ev_add (ev_add (ev_of (eo_slice (ev_var 1) (ep_none) (ep_some (ev_var 3)))) (ev_of (eo_lst (ea_cons (ev_of (eo_fn g__law_plus hr tk (ex_v (ev_item (ev_var 1) (ev_var 3)) (ex_v (ev_var 4) (ex_nil))))) (ea_nil))))) (ev_of (eo_slice (ev_var 1) (ep_some (ev_add (ev_var 3) (ev_int))) (ep_none))))) sc__law_bent.nd)
    (svs_cons (sv_set (i := 7) (eo_of (ev_add (ev_of (eo_slice (ev_var 6) (ep_none) (ep_some (ev_neg (ev_int))))) (ev_of (eo_lst (ea_cons (ev_of (eo_fn g__law_plus hr tk (ex_v (ev_item (ev_var 6) (ev_neg (ev_int))) (ex_v (ev_tup (ea_cons (ev_sub (ev_int) (ev_item (ev_var 4) (ev_int))) (ea_cons (ev_item (ev_var 4) (ev_int)) (ea_nil)))) (ex_nil))))) (ea_nil)))))) sc__law_bent.nd)
    (svs_cons (sv_setLc (i := 8) (own := [("_law_one", 11)]) rfl sc__law_bent.nd (iv_list (ev_var 1)) (blkOk_by (own := [("_law_one", 11)]) (N := N__law_bent) (sc := (defScope s__law_bent)) (by decide +kernel)) (fun _ _ _ _ _ => gv_name (i := 11) sc__law_bent.nd) (fun _ _ _ _ _ => ets_nil) (fun _ _ _ _ _ => ev_of (eo_fn g__law_fraction hr takes0 (ex_v (ev_of (eo_fn g__law_take hr takes0 (ex_s 0 (ex_v (ev_int) (ex_nil))))) (ex_v (ev_add (ev_int) (ev_of (eo_fn g__law_take hr takes0 (ex_s 0 (ex_v (ev_int) (ex_nil)))))) (ex_nil))))) (sw_true rfl rfl rfl (by decide +kernel)))
    (svs_cons (sv_set (i := 9) (eo_lst (ea_cons (ev_var 1) (ea_cons (ev_var 6) (ea_cons (ev_var 7) (ea_cons (ev_of (eo_lc (own := [("_law_one", 11)]) rfl sc__law_bent.nd (iv_list (ev_var 1)) (blkOk_by (own := [("_law_one", 11)]) (N := N__law_bent) (sc := (defScope s__law_bent)) (by decide +kernel)) (fun _ _ _ _ _ => gv_name (i := 11) sc__law_bent.nd) (fun _ _ _ _ _ => ets_nil) (fun _ _ _ _ _ => ev_of (eo_fn g__law_times hr takes0 (ex_v (ev_var 11) (ex_v (ev_var 5) (ex_nil))))))) (ea_cons (ev_add (ev_var 1) (ev_of (eo_lst (ea_cons (ev_var 4) (ea_nil))))) (ea_cons (ev_of (eo_slice (ev_var 1) (ep_none) (ep_some (ev_neg (ev_int))))) (ea_cons (ev_of (eo_lst (ea_nil))) (ea_nil))))))))) sc__law_bent.nd)
    (svs_cons (sv_set (i := 9) (eo_of (ev_add (ev_var 9) (ev_of (eo_lst (ea_cons (ev_of (eo_revL (ev_var 1))) (ea_cons (ev_mul (ev_of (eo_lst (ea_cons (ev_tup (ea_cons (ev_int) (ea_cons (ev_int) (ea_nil)))) (ea_nil)))) (ev_len T.b_len (ea_cons (ev_var 1) (ea_nil)))) (ea_cons (ev_var 8) (ea_cons (ev_mul (ev_of (eo_lst (ea_cons (ev_tup (ea_cons (ev_int) (ea_cons (ev_int) (ea_nil)))) (ea_nil)))) (ev_len T.b_len (ea_cons (ev_var 1) (ea_nil)))) (ea_cons (ev_add (ev_var 1) (ev_of (eo_slice (ev_var 1) (ep_some (ev_neg (ev_int))) (ep_none)))) (ea_nil)))))))))) sc__law_bent.nd)
    (svs_cons (sv_setLc (i := 10) (own := [("_law_one", 11)]) rfl sc__law_bent.nd (iv_list (ev_var 9)) (blkOk_by (own := [("_law_one", 11)]) (N := N__law_bent) (sc := (defScope s__law_bent)) (by decide +kernel)) (fun _ _ _ _ _ => gv_name (i := 11) sc__law_bent.nd) (fun _ _ _ _ _ => ets_nil) (fun _ _ _ _ _ => ev_tup (ea_cons (ev_var 11) (ea_cons (ev_var 2) (ea_nil)))) (sw_true rfl rfl rfl (by decide +kernel)))
    (svs_one (sv_ret (eo_of (ev_add (ev_var 10) (ev_of (eo_lst (ea_cons (ev_tup (ea_cons (ev_var 1) (ea_cons (ev_of (eo_fn g__law_plus hr tk (ex_v (ev_var 2) (ex_v (ev_var 4) (ex_nil))))) (ea_nil)))) (ea_cons (ev_tup (ea_cons (ev_var 1) (ea_cons (ev_of (eo_fn g__law_times hr tk (ex_v (ev_var 2) (ex_v (ev_var 5) (ex_nil))))) (ea_nil)))) (ea_cons (ev_tup (ea_cons (ev_var 1) (ea_cons (ev_tup (ea_cons (ev_int) (ea_cons (ev_int) (ea_nil)))) (ea_nil)))) (ea_cons (ev_tup (ea_cons (ev_var 1) (ea_cons (ev_tup (ea_cons (ev_int) (ea_cons (ev_int) (ea_nil)))) (ea_nil)))) (ea_nil)))))))))))))))))))
abbrev N__law_says : List Str := ["_law_told", "_law_due"]
theorem sc__law_says : FnScope ["_law_told", "_law_due"] ["_law_told", "_law_due"] (defScope s__law_says) := ⟨rfl, rfl, rfl, by decide +kernel, rfl, by decide +kernel, by decide +kernel⟩
theorem ok__law_says {P : Program} {w : World} {K : PySem.W.Frag} {mg : Str → Option Value} {base : Heap} (T : Txt K mg) : Ok P w K mg base "_law_says" 1 2 none fn__law_says := by
  refine ok_mk (N := ["_law_told", "_law_due"]) (ps := ["_law_told", "_law_due"]) (fb := fb__law_says) T.f__law_says sc__law_says (by decide) (fun _ _ _ _ _ _ us hl => match us, hl with | [_, _], _ => rfl) (fun f cdv A outer s H E hr tk po => ?_)
  exact svs_cons (sv_if (et_val (ev_var 1)) (svs_one (sv_ret (eo_of (ev_is (ev_var 0) (ev_bl))))) (svs_nil))
    (svs_one (sv_ret (eo_of (ev_is (ev_var 0) (ev_bl)))))
abbrev N_law : List Str := ["_law_script", "_law_k", "_law_stream_here", "_law_speeds_here", "_law_load", "_law_before", "_law_row_here", "_law_ratio", "_law_one", "_law_its", "_law_handed", "_law_due"]
theorem sc_law : FnScope ["_law_script", "_law_k", "_law_stream_here", "_law_speeds_here", "_law_load", "_law_before", "_law_row_here", "_law_ratio", "_law_one", "_law_its", "_law_handed", "_law_due"] ["_law_script"] (defScope s_law) := ⟨rfl, rfl, rfl, by decide +kernel, rfl, by decide +kernel, by decide +kernel⟩
theorem ok_law_at {P : Program} {w : World} {K : PySem.W.Frag} {mg : Str → Option Value} {base : Heap} {f : Addr} {fd : FuncData} (T : Txt K mg) (F : Fun K "law" "law" s_law f fd) : FnOk P w K mg base (L2.CX P w) 6 f fd ["_law_script"] (spF K mg 1 none fn_law) := by
  have g__law_stream := ok__law_stream (P := P) (w := w) (base := base) T
  have g__law_speeds := ok__law_speeds (P := P) (w := w) (base := base) T
  have g__law_take := ok__law_take (P := P) (w := w) (base := base) T
  have g__law_fraction := ok__law_fraction (P := P) (w := w) (base := base) T
  have g__law_times := ok__law_times (P := P) (w := w) (base := base) T
  have g__law_row := ok__law_row (P := P) (w := w) (base := base) T
  have g__law_bent := ok__law_bent (P := P) (w := w) (base := base) T
  have g__law_right := ok__law_right (P := P) (w := w) (base := base) T
  have g_line_row_holds := ok_line_row_holds (P := P) (w := w) (base := base) T
  have g__law_says := ok__law_says (P := P) (w := w) (base := base) T
  refine ok_at (N := ["_law_script", "_law_k", "_law_stream_here", "_law_speeds_here", "_law_load", "_law_before", "_law_row_here", "_law_ratio", "_law_one", "_law_its", "_law_handed", "_law_due"]) (ps := ["_law_script"]) (fb := fb_law) F sc_law (by decide) (fun f cdv A outer s H E hr tk po => ?_)
  exact svs_cons (sv_for po rfl (iv_range1 rfl T.b_range (ea_cons (ev_int) (ea_nil))) (gv_name (i := 1) sc_law.nd) (svs_cons (sv_set (i := 2) (eo_fn g__law_stream hr tk (ex_v (ev_var 0) (ex_v (ev_var 1) (ex_nil)))) sc_law.nd)
    (svs_cons (sv_set (i := 3) (eo_fn g__law_speeds hr tk (ex_s 2 (ex_nil))) sc_law.nd)
    (svs_cons (sv_set (i := 4) (eo_fn g__law_times hr tk (ex_v (ev_item (ev_var 3) (ev_neg (ev_int))) (ex_v (ev_of (eo_fn g__law_fraction hr tk (ex_v (ev_add (ev_int) (ev_of (eo_fn g__law_take hr tk (ex_s 2 (ex_v (ev_int) (ex_nil)))))) (ex_v (ev_add (ev_int) (ev_of (eo_fn g__law_take hr tk (ex_s 2 (ex_v (ev_int) (ex_nil)))))) (ex_nil))))) (ex_nil)))) sc_law.nd)
    (svs_cons (sv_asg (ev_of (eo_fn g__law_row hr tk (ex_v (ev_var 3) (ex_v (ev_var 4) (ex_nil))))) (gv_tup rfl (gvs_cons (gv_name (i := 6) sc_law.nd) (gvs_cons (gv_name (i := 7) sc_law.nd) (gvs_nil)))))
    (svs_cons (sv_set (i := 5) (eo_listOf T.b_list (ea_cons (ev_var 3) (ea_nil))) sc_law.nd)
    (svs_one (sv_for po rfl (iv_list (ev_of (eo_fn g__law_bent hr tk (ex_s 2 (ex_v (ev_var 6) (ex_v (ev_var 7) (ex_nil))))))) (gv_tup rfl (gvs_cons (gv_name (i := 8) sc_law.nd) (gvs_cons (gv_name (i := 9) sc_law.nd) (gvs_nil)))) (svs_cons (sv_set (i := 10) (eo_of (ev_tup (ea_cons (ev_of (eo_listOf T.b_list (ea_cons (ev_var 8) (ea_nil)))) (ea_cons (ev_var 9) (ea_nil))))) sc_law.nd)
    (svs_cons (sv_set (i := 11) (eo_fn g__law_right hr tk (ex_v (ev_var 3) (ex_v (ev_var 4) (ex_v (ev_var 8) (ex_v (ev_var 9) (ex_nil)))))) sc_law.nd)
    (svs_cons (sv_if (et_not (et_val (ev_of (eo_fn g__law_says hr tk (ex_v (ev_of (eo_fn g_line_row_holds hr tk (ex_v (ev_var 3) (ex_v (ev_var 4) (ex_v (ev_var 10) (ex_nil)))))) (ex_v (ev_var 11) (ex_nil))))))) (svs_one (sv_ret (eo_of (ev_bl)))) (svs_nil))
    (svs_one (sv_if (et_w (ew_or (et_ne hr.units (ev_var 10) (ev_tup (ea_cons (ev_var 8) (ea_cons (ev_var 9) (ea_nil))))) (ew_or1 (et_ne hr.units (ev_var 3) (ev_var 5))))) (svs_one (sv_ret (eo_of (ev_bl)))) (svs_nil))))))))))))))
    (svs_one (sv_ret (eo_of (ev_bl))))
end K20
namespace K20
open PySem PySem.Spec PyProof.Rows L2 Dt
theorem all_mk {l : PySem.W.OpenLaw} {w : World} {K : PySem.W.Frag} {h : Heap} {mg : Str → Option Value} {fa : Addr} (X : K.In h) (G : h.Ns mainGlobals mg) (hfa : mg "law" = some (.ref fa))
    {f0 : Addr} {od0 an0 : Option Addr} {sl0 : Array (Option Value)} {oc0 kV0 dc0 pm0 cd0 ct0 : Value}
    (a0 : PySem.W.nsIn K mainGlobals "common" = some (some (.ref f0))) (l0 : K.lookup f0 = some ⟨oc0, od0, .func (PySem.W.fnOf "common" "common" (defArgs s_common) (defBody s_common) (defScope s_common) .none kV0 dc0 pm0 an0 cd0 ct0), sl0⟩) (c0 : PySem.W.codeIn K cd0 "common" = true) (k0 : PySem.W.keepIn K (.ref f0) = true)
    {f1 : Addr} {od1 an1 : Option Addr} {sl1 : Array (Option Value)} {oc1 kV1 dc1 pm1 cd1 ct1 : Value}
    (a1 : PySem.W.nsIn K mainGlobals "fraction" = some (some (.ref f1))) (l1 : K.lookup f1 = some ⟨oc1, od1, .func (PySem.W.fnOf "fraction" "fraction" (defArgs s_fraction) (defBody s_fraction) (defScope s_fraction) .none kV1 dc1 pm1 an1 cd1 ct1), sl1⟩) (c1 : PySem.W.codeIn K cd1 "fraction" = true) (k1 : PySem.W.keepIn K (.ref f1) = true)
    {f2 : Addr} {od2 an2 : Option Addr} {sl2 : Array (Option Value)} {oc2 kV2 dc2 pm2 cd2 ct2 : Value}
    (a2 : PySem.W.nsIn K mainGlobals "plus" = some (some (.ref f2))) (l2 : K.lookup f2 = some ⟨oc2, od2, .func (PySem.W.fnOf "plus" "plus" (defArgs s_plus) (defBody s_plus) (defScope s_plus) .none kV2 dc2 pm2 an2 cd2 ct2), sl2⟩) (c2 : PySem.W.codeIn K cd2 "plus" = true) (k2 : PySem.W.keepIn K (.ref f2) = true)
    {f3 : Addr} {od3 an3 : Option Addr} {sl3 : Array (Option Value)} {oc3 kV3 dc3 pm3 cd3 ct3 : Value}
    (a3 : PySem.W.nsIn K mainGlobals "less" = some (some (.ref f3))) (l3 : K.lookup f3 = some ⟨oc3, od3, .func (PySem.W.fnOf "less" "less" (defArgs s_less) (defBody s_less) (defScope s_less) .none kV3 dc3 pm3 an3 cd3 ct3), sl3⟩) (c3 : PySem.W.codeIn K cd3 "less" = true) (k3 : PySem.W.keepIn K (.ref f3) = true)
    {f4 : Addr} {od4 an4 : Option Addr} {sl4 : Array (Option Value)} {oc4 kV4 dc4 pm4 cd4 ct4 : Value}
    (a4 : PySem.W.nsIn K mainGlobals "times" = some (some (.ref f4))) (l4 : K.lookup f4 = some ⟨oc4, od4, .func (PySem.W.fnOf "times" "times" (defArgs s_times) (defBody s_times) (defScope s_times) .none kV4 dc4 pm4 an4 cd4 ct4), sl4⟩) (c4 : PySem.W.codeIn K cd4 "times" = true) (k4 : PySem.W.keepIn K (.ref f4) = true)
    {f5 : Addr} {od5 an5 : Option Addr} {sl5 : Array (Option Value)} {oc5 kV5 dc5 pm5 cd5 ct5 : Value}
    (a5 : PySem.W.nsIn K mainGlobals "over" = some (some (.ref f5))) (l5 : K.lookup f5 = some ⟨oc5, od5, .func (PySem.W.fnOf "over" "over" (defArgs s_over) (defBody s_over) (defScope s_over) .none kV5 dc5 pm5 an5 cd5 ct5), sl5⟩) (c5 : PySem.W.codeIn K cd5 "over" = true) (k5 : PySem.W.keepIn K (.ref f5) = true)
    {f6 : Addr} {od6 an6 : Option Addr} {sl6 : Array (Option Value)} {oc6 kV6 dc6 pm6 cd6 ct6 : Value}
    (a6 : PySem.W.nsIn K mainGlobals "is_less" = some (some (.ref f6))) (l6 : K.lookup f6 = some ⟨oc6, od6, .func (PySem.W.fnOf "is_less" "is_less" (defArgs s_is_less) (defBody s_is_less) (defScope s_is_less) .none kV6 dc6 pm6 an6 cd6 ct6), sl6⟩) (c6 : PySem.W.codeIn K cd6 "is_less" = true) (k6 : PySem.W.keepIn K (.ref f6) = true)
    {f7 : Addr} {od7 an7 : Option Addr} {sl7 : Array (Option Value)} {oc7 kV7 dc7 pm7 cd7 ct7 : Value}
    (a7 : PySem.W.nsIn K mainGlobals "total" = some (some (.ref f7))) (l7 : K.lookup f7 = some ⟨oc7, od7, .func (PySem.W.fnOf "total" "total" (defArgs s_total) (defBody s_total) (defScope s_total) .none kV7 dc7 pm7 an7 cd7 ct7), sl7⟩) (c7 : PySem.W.codeIn K cd7 "total" = true) (k7 : PySem.W.keepIn K (.ref f7) = true)
    {f8 : Addr} {od8 an8 : Option Addr} {sl8 : Array (Option Value)} {oc8 kV8 dc8 pm8 cd8 ct8 : Value}
    (a8 : PySem.W.nsIn K mainGlobals "behind_last" = some (some (.ref f8))) (l8 : K.lookup f8 = some ⟨oc8, od8, .func (PySem.W.fnOf "behind_last" "behind_last" (defArgs s_behind_last) (defBody s_behind_last) (defScope s_behind_last) .none kV8 dc8 pm8 an8 cd8 ct8), sl8⟩) (c8 : PySem.W.codeIn K cd8 "behind_last" = true) (k8 : PySem.W.keepIn K (.ref f8) = true)
    {f9 : Addr} {od9 an9 : Option Addr} {sl9 : Array (Option Value)} {oc9 kV9 dc9 pm9 cd9 ct9 : Value}
    (a9 : PySem.W.nsIn K mainGlobals "line_row_holds" = some (some (.ref f9))) (l9 : K.lookup f9 = some ⟨oc9, od9, .func (PySem.W.fnOf "line_row_holds" "line_row_holds" (defArgs s_line_row_holds) (defBody s_line_row_holds) (defScope s_line_row_holds) .none kV9 dc9 pm9 an9 cd9 ct9), sl9⟩) (c9 : PySem.W.codeIn K cd9 "line_row_holds" = true) (k9 : PySem.W.keepIn K (.ref f9) = true)
    {f10 : Addr} {od10 an10 : Option Addr} {sl10 : Array (Option Value)} {oc10 kV10 dc10 pm10 cd10 ct10 : Value}
    (a10 : PySem.W.nsIn K mainGlobals "_law_stream" = some (some (.ref f10))) (l10 : K.lookup f10 = some ⟨oc10, od10, .func (PySem.W.fnOf "_law_stream" "_law_stream" (defArgs s__law_stream) (defBody s__law_stream) (defScope s__law_stream) .none kV10 dc10 pm10 an10 cd10 ct10), sl10⟩) (c10 : PySem.W.codeIn K cd10 "_law_stream" = true) (k10 : PySem.W.keepIn K (.ref f10) = true)
    {f11 : Addr} {od11 an11 : Option Addr} {sl11 : Array (Option Value)} {oc11 kV11 dc11 pm11 cd11 ct11 : Value}
    (a11 : PySem.W.nsIn K mainGlobals "_law_take" = some (some (.ref f11))) (l11 : K.lookup f11 = some ⟨oc11, od11, .func (PySem.W.fnOf "_law_take" "_law_take" (defArgs s__law_take) (defBody s__law_take) (defScope s__law_take) .none kV11 dc11 pm11 an11 cd11 ct11), sl11⟩) (c11 : PySem.W.codeIn K cd11 "_law_take" = true) (k11 : PySem.W.keepIn K (.ref f11) = true)
    {f12 : Addr} {od12 an12 : Option Addr} {sl12 : Array (Option Value)} {oc12 kV12 dc12 pm12 cd12 ct12 : Value}
    (a12 : PySem.W.nsIn K mainGlobals "_law_fraction" = some (some (.ref f12))) (l12 : K.lookup f12 = some ⟨oc12, od12, .func (PySem.W.fnOf "_law_fraction" "_law_fraction" (defArgs s__law_fraction) (defBody s__law_fraction) (defScope s__law_fraction) .none kV12 dc12 pm12 an12 cd12 ct12), sl12⟩) (c12 : PySem.W.codeIn K cd12 "_law_fraction" = true) (k12 : PySem.W.keepIn K (.ref f12) = true)
    {f13 : Addr} {od13 an13 : Option Addr} {sl13 : Array (Option Value)} {oc13 kV13 dc13 pm13 cd13 ct13 : Value}
    (a13 : PySem.W.nsIn K mainGlobals "_law_plus" = some (some (.ref f13))) (l13 : K.lookup f13 = some ⟨oc13, od13, .func (PySem.W.fnOf "_law_plus" "_law_plus" (defArgs s__law_plus) (defBody s__law_plus) (defScope s__law_plus) .none kV13 dc13 pm13 an13 cd13 ct13), sl13⟩) (c13 : PySem.W.codeIn K cd13 "_law_plus" = true) (k13 : PySem.W.keepIn K (.ref f13) = true)
    {f14 : Addr} {od14 an14 : Option Addr} {sl14 : Array (Option Value)} {oc14 kV14 dc14 pm14 cd14 ct14 : Value}
    (a14 : PySem.W.nsIn K mainGlobals "_law_over" = some (some (.ref f14))) (l14 : K.lookup f14 = some ⟨oc14, od14, .func (PySem.W.fnOf "_law_over" "_law_over" (defArgs s__law_over) (defBody s__law_over) (defScope s__law_over) .none kV14 dc14 pm14 an14 cd14 ct14), sl14⟩) (c14 : PySem.W.codeIn K cd14 "_law_over" = true) (k14 : PySem.W.keepIn K (.ref f14) = true)
    {f15 : Addr} {od15 an15 : Option Addr} {sl15 : Array (Option Value)} {oc15 kV15 dc15 pm15 cd15 ct15 : Value}
    (a15 : PySem.W.nsIn K mainGlobals "_law_times" = some (some (.ref f15))) (l15 : K.lookup f15 = some ⟨oc15, od15, .func (PySem.W.fnOf "_law_times" "_law_times" (defArgs s__law_times) (defBody s__law_times) (defScope s__law_times) .none kV15 dc15 pm15 an15 cd15 ct15), sl15⟩) (c15 : PySem.W.codeIn K cd15 "_law_times" = true) (k15 : PySem.W.keepIn K (.ref f15) = true)
    {f16 : Addr} {od16 an16 : Option Addr} {sl16 : Array (Option Value)} {oc16 kV16 dc16 pm16 cd16 ct16 : Value}
    (a16 : PySem.W.nsIn K mainGlobals "_law_speeds" = some (some (.ref f16))) (l16 : K.lookup f16 = some ⟨oc16, od16, .func (PySem.W.fnOf "_law_speeds" "_law_speeds" (defArgs s__law_speeds) (defBody s__law_speeds) (defScope s__law_speeds) .none kV16 dc16 pm16 an16 cd16 ct16), sl16⟩) (c16 : PySem.W.codeIn K cd16 "_law_speeds" = true) (k16 : PySem.W.keepIn K (.ref f16) = true)
    {f17 : Addr} {od17 an17 : Option Addr} {sl17 : Array (Option Value)} {oc17 kV17 dc17 pm17 cd17 ct17 : Value}
    (a17 : PySem.W.nsIn K mainGlobals "_law_behind" = some (some (.ref f17))) (l17 : K.lookup f17 = some ⟨oc17, od17, .func (PySem.W.fnOf "_law_behind" "_law_behind" (defArgs s__law_behind) (defBody s__law_behind) (defScope s__law_behind) .none kV17 dc17 pm17 an17 cd17 ct17), sl17⟩) (c17 : PySem.W.codeIn K cd17 "_law_behind" = true) (k17 : PySem.W.keepIn K (.ref f17) = true)
    {f18 : Addr} {od18 an18 : Option Addr} {sl18 : Array (Option Value)} {oc18 kV18 dc18 pm18 cd18 ct18 : Value}
    (a18 : PySem.W.nsIn K mainGlobals "_law_together" = some (some (.ref f18))) (l18 : K.lookup f18 = some ⟨oc18, od18, .func (PySem.W.fnOf "_law_together" "_law_together" (defArgs s__law_together) (defBody s__law_together) (defScope s__law_together) .none kV18 dc18 pm18 an18 cd18 ct18), sl18⟩) (c18 : PySem.W.codeIn K cd18 "_law_together" = true) (k18 : PySem.W.keepIn K (.ref f18) = true)
    {f19 : Addr} {od19 an19 : Option Addr} {sl19 : Array (Option Value)} {oc19 kV19 dc19 pm19 cd19 ct19 : Value}
    (a19 : PySem.W.nsIn K mainGlobals "_law_right" = some (some (.ref f19))) (l19 : K.lookup f19 = some ⟨oc19, od19, .func (PySem.W.fnOf "_law_right" "_law_right" (defArgs s__law_right) (defBody s__law_right) (defScope s__law_right) .none kV19 dc19 pm19 an19 cd19 ct19), sl19⟩) (c19 : PySem.W.codeIn K cd19 "_law_right" = true) (k19 : PySem.W.keepIn K (.ref f19) = true)
    {f20 : Addr} {od20 an20 : Option Addr} {sl20 : Array (Option Value)} {oc20 kV20 dc20 pm20 cd20 ct20 : Value}
    (a20 : PySem.W.nsIn K mainGlobals "_law_row" = some (some (.ref f20))) (l20 : K.lookup f20 = some ⟨oc20, od20, .func (PySem.W.fnOf "_law_row" "_law_row" (defArgs s__law_row) (defBody s__law_row) (defScope s__law_row) .none kV20 dc20 pm20 an20 cd20 ct20), sl20⟩) (c20 : PySem.W.codeIn K cd20 "_law_row" = true) (k20 : PySem.W.keepIn K (.ref f20) = true)
    {f21 : Addr} {od21 an21 : Option Addr} {sl21 : Array (Option Value)} {oc21 kV21 dc21 pm21 cd21 ct21 : Value}
    (a21 : PySem.W.nsIn K mainGlobals "_law_bent" = some (some (.ref f21))) (l21 : K.lookup f21 = some ⟨oc21, od21, .func (PySem.W.fnOf "_law_bent" "_law_bent" (defArgs s__law_bent) (defBody s__law_bent) (defScope s__law_bent) .none kV21 dc21 pm21 an21 cd21 ct21), sl21⟩) (c21 : PySem.W.codeIn K cd21 "_law_bent" = true) (k21 : PySem.W.keepIn K (.ref f21) = true)
    {f22 : Addr} {od22 an22 : Option Addr} {sl22 : Array (Option Value)} {oc22 kV22 dc22 pm22 cd22 ct22 : Value}
    (a22 : PySem.W.nsIn K mainGlobals "_law_says" = some (some (.ref f22))) (l22 : K.lookup f22 = some ⟨oc22, od22, .func (PySem.W.fnOf "_law_says" "_law_says" (defArgs s__law_says) (defBody s__law_says) (defScope s__law_says) .none kV22 dc22 pm22 an22 cd22 ct22), sl22⟩) (c22 : PySem.W.codeIn K cd22 "_law_says" = true) (k22 : PySem.W.keepIn K (.ref f22) = true)
    {f23 : Addr} {od23 an23 : Option Addr} {sl23 : Array (Option Value)} {oc23 kV23 dc23 pm23 cd23 ct23 : Value}
    (a23 : PySem.W.nsIn K mainGlobals "law" = some (some (.ref f23))) (l23 : K.lookup f23 = some ⟨oc23, od23, .func (PySem.W.fnOf "law" "law" (defArgs s_law) (defBody s_law) (defScope s_law) .none kV23 dc23 pm23 an23 cd23 ct23), sl23⟩) (c23 : PySem.W.codeIn K cd23 "law" = true) (k23 : PySem.W.keepIn K (.ref f23) = true)
    (z0 : PySem.W.nsIn K mainGlobals "abs" = some none)
    (z1 : PySem.W.nsIn K mainGlobals "len" = some none)
    (z2 : PySem.W.nsIn K mainGlobals "list" = some none)
    (z3 : PySem.W.nsIn K mainGlobals "range" = some none)
    {C0 : Addr} (xa0 : PySem.W.nsIn K mainGlobals "NoFraction" = some (some (.ref C0))) (xe0 : PySem.W.excIn K C0 veTail "ValueError.__new__" = true) (xk0 : PySem.W.keepIn K (.ref C0) = true) (xb0 : PySem.W.subIn K (.ref C0) (.type "BaseException") = some true) (xt0 : PySem.W.typeIn K (.ref C0) = some (.type "type"))
    {cp0 : Addr} {co0 : Option Addr} {cn0 : Nat} {cs0 : Array (Option Value)} {ct0_0 : Tok} {ct0_1 : Tok} (ca0 : PySem.W.nsIn K mainGlobals "NOUGHT" = some (some (.ref cp0))) (cl0 : K.lookup cp0 = some ⟨.type "tuple", co0, .seq #[.int 0 ct0_0, .int 1 ct0_1] cn0, cs0⟩)
    {cp1 : Addr} {co1 : Option Addr} {cn1 : Nat} {cs1 : Array (Option Value)} {ct1_0 : Tok} {ct1_1 : Tok} (ca1 : PySem.W.nsIn K mainGlobals "ONE" = some (some (.ref cp1))) (cl1 : K.lookup cp1 = some ⟨.type "tuple", co1, .seq #[.int 1 ct1_0, .int 1 ct1_1] cn1, cs1⟩)
    : ∃ fd : FuncData, (∀ (s : Shared) (v : Value), BindsTo s fd ⟨[v], []⟩ [("_law_script", v)]) ∧ ∀ base : Heap, K.In base → base.Ns mainGlobals mg → FnOk l.prog w K mg base (L2.CX l.prog w) 6 fa fd ["_law_script"] (spL K 63) := by
  have e := hfa.symm.trans (PySem.W.mg_of X G a23)
  cases e
  have T : Txt K mg := { f_common := ⟨_, _, fun_mk (st := s_common) l0 c0 k0, PySem.W.mg_of X G a0⟩, f_fraction := ⟨_, _, fun_mk (st := s_fraction) l1 c1 k1, PySem.W.mg_of X G a1⟩, f_plus := ⟨_, _, fun_mk (st := s_plus) l2 c2 k2, PySem.W.mg_of X G a2⟩, f_less := ⟨_, _, fun_mk (st := s_less) l3 c3 k3, PySem.W.mg_of X G a3⟩, f_times := ⟨_, _, fun_mk (st := s_times) l4 c4 k4, PySem.W.mg_of X G a4⟩, f_over := ⟨_, _, fun_mk (st := s_over) l5 c5 k5, PySem.W.mg_of X G a5⟩, f_is_less := ⟨_, _, fun_mk (st := s_is_less) l6 c6 k6, PySem.W.mg_of X G a6⟩, f_total := ⟨_, _, fun_mk (st := s_total) l7 c7 k7, PySem.W.mg_of X G a7⟩, f_behind_last := ⟨_, _, fun_mk (st := s_behind_last) l8 c8 k8, PySem.W.mg_of X G a8⟩, f_line_row_holds := ⟨_, _, fun_mk (st := s_line_row_holds) l9 c9 k9, PySem.W.mg_of X G a9⟩, f__law_stream := ⟨_, _, fun_mk (st := s__law_stream) l10 c10 k10, PySem.W.mg_of X G a10⟩, f__law_take := ⟨_, _, fun_mk (st := s__law_take) l11 c11 k11, PySem.W.mg_of X G a11⟩, f__law_fraction := ⟨_, _, fun_mk (st := s__law_fraction) l12 c12 k12, PySem.W.mg_of X G a12⟩, f__law_plus := ⟨_, _, fun_mk (st := s__law_plus) l13 c13 k13, PySem.W.mg_of X G a13⟩, f__law_over := ⟨_, _, fun_mk (st := s__law_over) l14 c14 k14, PySem.W.mg_of X G a14⟩, f__law_times := ⟨_, _, fun_mk (st := s__law_times) l15 c15 k15, PySem.W.mg_of X G a15⟩, f__law_speeds := ⟨_, _, fun_mk (st := s__law_speeds) l16 c16 k16, PySem.W.mg_of X G a16⟩, f__law_behind := ⟨_, _, fun_mk (st := s__law_behind) l17 c17 k17, PySem.W.mg_of X G a17⟩, f__law_together := ⟨_, _, fun_mk (st := s__law_together) l18 c18 k18, PySem.W.mg_of X G a18⟩, f__law_right := ⟨_, _, fun_mk (st := s__law_right) l19 c19 k19, PySem.W.mg_of X G a19⟩, f__law_row := ⟨_, _, fun_mk (st := s__law_row) l20 c20 k20, PySem.W.mg_of X G a20⟩, f__law_bent := ⟨_, _, fun_mk (st := s__law_bent) l21 c21 k21, PySem.W.mg_of X G a21⟩, f__law_says := ⟨_, _, fun_mk (st := s__law_says) l22 c22 k22, PySem.W.mg_of X G a22⟩, f_law := ⟨_, _, fun_mk (st := s_law) l23 c23 k23, PySem.W.mg_of X G a23⟩, b_abs := PySem.W.mg_none_of X G z0, b_len := PySem.W.mg_none_of X G z1, b_list := PySem.W.mg_none_of X G z2, b_range := PySem.W.mg_none_of X G z3, x_NoFraction := ⟨_, PySem.W.mg_of X G xa0, xe0, xk0, xb0, xt0⟩, c_NOUGHT := cn_tup (us := [.int 0 ct0_0, .int 1 ct0_1]) (PySem.W.mg_of X G ca0) cl0 (by simp) (.int (.int .nil)), c_ONE := cn_tup (us := [.int 1 ct1_0, .int 1 ct1_1]) (PySem.W.mg_of X G ca1) cl1 (by simp) (.int (.int .nil)) }
  refine ⟨PySem.W.fnOf "law" "law" (defArgs s_law) (defBody s_law) (defScope s_law) .none kV23 dc23 pm23 an23 cd23 ct23, fun s v => .of_eq rfl, fun base _ _ => ?_⟩
  exact law_of (ok_law_at T (fun_mk (st := s_law) l23 c23 k23)) law_true
end K20
open PySem PySem.W PyProof.Rows
set_option maxHeartbeats 0 in
theorem PySem.Challenge.cw_restlines_k20_line_row_holds_holds : PySem.Challenge.rw_restlines_k20_line_row_holds.Holds := by
  w_on; o_law; k_head; (case hw => w_witness2)
  k_fill
  refine L2.walk_ofB (l := PySem.Challenge.rw_restlines_k20_line_row_holds) (n := 63) (k := 6) (x := "_law_script") (CX := fun w => L2.CX PySem.Challenge.pw_restlines_k20_line_row_holds w) (sp := fun w => Dt.spL _ 63) rfl (by decide) rfl ⟨rfl, by decide, by decide⟩ (fun w h Y => PySem.W.kIn_of Y) ?F (fun _ _ a ns hl hb _ hS => ⟨a, ns, rfl, hS, hl, hb, fun _ => rfl⟩) (fun _ _ _ _ _ h => by obtain ⟨_, _, _, _, _, _, _, _, _, _, _, _, z⟩ := h; exact z)
  case F =>
    intro w mg fa h KX G hmg
    refine' K20.all_mk (l := PySem.Challenge.rw_restlines_k20_line_row_holds) KX G hmg ?a0 ?l0 ?c0 ?k0 ?a1 ?l1 ?c1 ?k1 ?a2 ?l2 ?c2 ?k2 ?a3 ?l3 ?c3 ?k3 ?a4 ?l4 ?c4 ?k4 ?a5 ?l5 ?c5 ?k5 ?a6 ?l6 ?c6 ?k6 ?a7 ?l7 ?c7 ?k7 ?a8 ?l8 ?c8 ?k8 ?a9 ?l9 ?c9 ?k9 ?a10 ?l10 ?c10 ?k10 ?a11 ?l11 ?c11 ?k11 ?a12 ?l12 ?c12 ?k12 ?a13 ?l13 ?c13 ?k13 ?a14 ?l14 ?c14 ?k14 ?a15 ?l15 ?c15 ?k15 ?a16 ?l16 ?c16 ?k16 ?a17 ?l17 ?c17 ?k17 ?a18 ?l18 ?c18 ?k18 ?a19 ?l19 ?c19 ?k19 ?a20 ?l20 ?c20 ?k20 ?a21 ?l21 ?c21 ?k21 ?a22 ?l22 ?c22 ?k22 ?a23 ?l23 ?c23 ?k23 ?z0 ?z1 ?z2 ?z3 ?xa0 ?xe0 ?xk0 ?xb0 ?xt0 ?ca0 ?cl0 ?ca1 ?cl1
    (case a0 => k_is)
    (case l0 => k_is)
    (case c0 => k_is)
    (case k0 => k_is)
    (case a1 => k_is)
    (case l1 => k_is)
    (case c1 => k_is)
    (case k1 => k_is)
    (case a2 => k_is)
    (case l2 => k_is)
    (case c2 => k_is)
    (case k2 => k_is)
    (case a3 => k_is)
    (case l3 => k_is)
    (case c3 => k_is)
    (case k3 => k_is)
    (case a4 => k_is)
    (case l4 => k_is)
    (case c4 => k_is)
    (case k4 => k_is)
    (case a5 => k_is)
    (case l5 => k_is)
    (case c5 => k_is)
    (case k5 => k_is)
    (case a6 => k_is)
    (case l6 => k_is)
    (case c6 => k_is)
    (case k6 => k_is)
    (case a7 => k_is)
    (case l7 => k_is)
    (case c7 => k_is)
    (case k7 => k_is)
    (case a8 => k_is)
    (case l8 => k_is)
    (case c8 => k_is)
    (case k8 => k_is)
    (case a9 => k_is)
    (case l9 => k_is)
    (case c9 => k_is)
    (case k9 => k_is)
    (case a10 => k_is)
    (case l10 => k_is)
    (case c10 => k_is)
    (case k10 => k_is)
    (case a11 => k_is)
    (case l11 => k_is)
    (case c11 => k_is)
    (case k11 => k_is)
    (case a12 => k_is)
    (case l12 => k_is)
    (case c12 => k_is)
    (case k12 => k_is)
    (case a13 => k_is)
    (case l13 => k_is)
    (case c13 => k_is)
    (case k13 => k_is)
    (case a14 => k_is)
    (case l14 => k_is)
    (case c14 => k_is)
    (case k14 => k_is)
    (case a15 => k_is)
    (case l15 => k_is)
    (case c15 => k_is)
    (case k15 => k_is)
    (case a16 => k_is)
    (case l16 => k_is)
    (case c16 => k_is)
    (case k16 => k_is)
    (case a17 => k_is)
    (case l17 => k_is)
    (case c17 => k_is)
    (case k17 => k_is)
    (case a18 => k_is)
    (case l18 => k_is)
    (case c18 => k_is)
    (case k18 => k_is)
    (case a19 => k_is)
    (case l19 => k_is)
    (case c19 => k_is)
    (case k19 => k_is)
    (case a20 => k_is)
    (case l20 => k_is)
    (case c20 => k_is)
    (case k20 => k_is)
    (case a21 => k_is)
    (case l21 => k_is)
    (case c21 => k_is)
    (case k21 => k_is)
    (case a22 => k_is)
    (case l22 => k_is)
    (case c22 => k_is)
    (case k22 => k_is)
    (case a23 => k_is)
    (case l23 => k_is)
    (case c23 => k_is)
    (case k23 => k_is)
    (case z0 => k_is)
    (case z1 => k_is)
    (case z2 => k_is)
    (case z3 => k_is)
    (case xa0 => k_is)
    (case xe0 => k_exc)
    (case xk0 => k_is)
    (case xb0 => k_is)
    (case xt0 => k_is)
    (case ca0 => k_is)
    (case cl0 => k_is)
    (case ca1 => k_is)
    (case cl1 => k_is)
