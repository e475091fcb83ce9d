import PyProof.Rows.All
import Wide.All
import OpenK.AllK
import Wide.FinOn
import HandS.ForMost
import HandS.Exc
import HandS.WordsExc
import HandS.Flow
import HandS.Style
import HandS.ExcOwn
import HandS.CallSlots
import HandS.TryOnly
import HandS.Iter
import HandS.IsInst
import HandS.SortInts
import HandS.Deep
import HandS.ExcIs
import HandS.OwnEq
import HandS.IterVal
import HandS.OwnIter
import PySem.Challenge.RW_lampcrossings_k01_beats_joined
set_option Elab.async false
set_option linter.all false
set_option maxRecDepth 100000
set_option maxHeartbeats 4000000
/-! Lw: a program logic over plain data, on top of the hand layer: what stands in the slots is told as data (D), the heap is hidden. -/
namespace Lw
open PySem L2

/-! ### 1. data -/
inductive D where
  | non | bl (b : Bool) | int (i : Int) | str (x : Str)
  | lst (xs : List D) | tup (xs : List D) | obj (C : Addr) (fs : List (Str × D)) | scr (xs : List D) | ty (n : String) | cls (C : Addr)

def Shell (K : PySem.W.Frag) (H : Hp) (a : Addr) : HO → Prop
  | .tup vs => SqT K H a vs
  | o => H a = some o

mutual
inductive Rep (K : PySem.W.Frag) : Hp → V → D → Prop
  | non {H} : Rep K H .non .non
  | bl {H} (b : Bool) : Rep K H (.bl b) (.bl b)
  | int {H} (i : Int) : Rep K H (.int i) (.int i)
  | str {H} (x : Str) : Rep K H (.str x) (.str x)
  | ty {H} (n : String) : Rep K H (.ty n) (.ty n)
  | cls {H} (C : Addr) : Rep K H (.ref C) (.cls C)
  | ref {H} {a : Addr} {o : HO} {d : D} : Shell K H a o → HRep K H o d → Rep K H (.ref a) d
  | scr {H} {a : Addr} {vs : List V} {ds : List D} : SqL K H a vs → Reps K H vs ds → Rep K H (.ref a) (.scr ds)
inductive HRep (K : PySem.W.Frag) : Hp → HO → D → Prop
  | lst {H} {vs : List V} {ds : List D} : Reps K H vs ds → HRep K H (.lst vs) (.lst ds)
  | tup {H} {vs : List V} {ds : List D} : Reps K H vs ds → HRep K H (.tup vs) (.tup ds)
  | ins {H} {C dx : Addr} {fs : List (Str × V)} {gs : List (Str × D)} : RepF K H fs gs → HRep K H (.ins C dx fs) (.obj C gs)
inductive Reps (K : PySem.W.Frag) : Hp → List V → List D → Prop
  | nil {H} : Reps K H [] []
  | cons {H} {v : V} {d : D} {vs : List V} {ds : List D} : Rep K H v d → Reps K H vs ds → Reps K H (v :: vs) (d :: ds)
inductive RepF (K : PySem.W.Frag) : Hp → List (Str × V) → List (Str × D) → Prop
  | nil {H} : RepF K H [] []
  | cons {H} {x : Str} {v : V} {d : D} {fs : List (Str × V)} {gs : List (Str × D)} : Rep K H v d → RepF K H fs gs → RepF K H ((x, v) :: fs) ((x, d) :: gs)
end

def Ext (H H' : Hp) : Prop := ∀ a o, H a = some o → H' a = some o
theorem Ext.refl (H : Hp) : Ext H H := fun _ _ h => h
theorem Ext.trans {H H1 H2 : Hp} (a : Ext H H1) (b : Ext H1 H2) : Ext H H2 := fun x o h => b x o (a x o h)
theorem Ext.new {H : Hp} {p : Addr} {o : HO} (h : H p = none) : Ext H (upd H p o) := fun a u e => by
  rw [upd_ne (ne_of_none e h)]; exact e
variable {K : PySem.W.Frag}
theorem Ext.l {H H' : Hp} {a : Addr} {xs : List V} (e : Ext H H') (h : SqL K H a xs) : SqL K H' a xs := by
  rcases h with h | h
  · rcases h with h | ⟨o, h⟩
    · exact .inl (.inl (e a _ h))
    · exact .inl (.inr ⟨o, e a _ h⟩)
  · exact .inr h
theorem Ext.t {H H' : Hp} {a : Addr} {xs : List V} (e : Ext H H') (h : SqT K H a xs) : SqT K H' a xs := by
  rcases h with h | h
  · rcases h with h | ⟨o, h⟩
    · exact .inl (.inl (e a _ h))
    · exact .inl (.inr ⟨o, e a _ h⟩)
  · exact .inr h
theorem Shell.of {H : Hp} {a : Addr} {o : HO} (h : H a = some o) : Shell K H a o := by
  cases o <;> first | exact h | exact SqT.of h
theorem Shell.mono {H H' : Hp} {a : Addr} {o : HO} (e : Ext H H') (h : Shell K H a o) : Shell K H' a o := by
  cases o <;> first | exact e _ _ h | exact Ext.t e h

mutual
theorem Rep.mono {H H' : Hp} (e : Ext H H') : ∀ {v : V} {d : D}, Rep K H v d → Rep K H' v d
  | _, _, .non => .non
  | _, _, .bl b => .bl b
  | _, _, .int i => .int i
  | _, _, .str x => .str x
  | _, _, .ty x => .ty x
  | _, _, .cls x => .cls x
  | _, _, .ref s h => .ref (Shell.mono e s) (HRep.mono e h)
  | _, _, .scr s h => .scr (Ext.l e s) (Reps.mono e h)
theorem HRep.mono {H H' : Hp} (e : Ext H H') : ∀ {o : HO} {d : D}, HRep K H o d → HRep K H' o d
  | _, _, .lst r => .lst (Reps.mono e r)
  | _, _, .tup r => .tup (Reps.mono e r)
  | _, _, .ins r => .ins (RepF.mono e r)
theorem Reps.mono {H H' : Hp} (e : Ext H H') : ∀ {vs : List V} {ds : List D}, Reps K H vs ds → Reps K H' vs ds
  | _, _, .nil => .nil
  | _, _, .cons a b => .cons (Rep.mono e a) (Reps.mono e b)
theorem RepF.mono {H H' : Hp} (e : Ext H H') : ∀ {vs : List (Str × V)} {ds : List (Str × D)}, RepF K H vs ds → RepF K H' vs ds
  | _, _, .nil => .nil
  | _, _, .cons a b => .cons (Rep.mono e a) (RepF.mono e b)
end

theorem Reps.length {H : Hp} : ∀ {vs : List V} {ds : List D}, Reps K H vs ds → vs.length = ds.length
  | _, _, .nil => rfl
  | _, _, .cons _ t => by simp [Reps.length t]
theorem Reps.get {H : Hp} : ∀ {vs : List V} {ds : List D} {i : Nat} {d : D}, Reps K H vs ds → ds[i]? = some d → ∃ v, vs[i]? = some v ∧ Rep K H v d
  | _, _, _, _, .nil, e => by simp at e
  | _, _, 0, _, .cons r _, e => by simp at e; subst e; exact ⟨_, rfl, r⟩
  | _, _, i + 1, d, .cons _ t, e => by
    obtain ⟨v, h1, h2⟩ := Reps.get (i := i) (d := d) t (by simpa using e)
    exact ⟨v, by simpa using h1, h2⟩
theorem Reps.get' {H : Hp} : ∀ {vs : List V} {ds : List D} {i : Nat} {v : V}, Reps K H vs ds → vs[i]? = some v → ∃ d, ds[i]? = some d ∧ Rep K H v d
  | _, _, _, _, .nil, e => by simp at e
  | _, _, 0, _, .cons r _, e => by simp at e; subst e; exact ⟨_, rfl, r⟩
  | _, _, i + 1, v, .cons _ t, e => by
    obtain ⟨d, h1, h2⟩ := Reps.get' (i := i) (v := v) t (by simpa using e)
    exact ⟨d, by simpa using h1, h2⟩
theorem Reps.append {H : Hp} : ∀ {vs ws : List V} {ds es : List D}, Reps K H vs ds → Reps K H ws es → Reps K H (vs ++ ws) (ds ++ es)
  | _, _, _, _, .nil, s => s
  | _, _, _, _, .cons r t, s => .cons r (Reps.append t s)
theorem Reps.set {H : Hp} {v : V} {d : D} (r : Rep K H v d) : ∀ {vs : List V} {ds : List D} (i : Nat), Reps K H vs ds → Reps K H (vs.set i v) (ds.set i d)
  | _, _, _, .nil => .nil
  | _, _, 0, .cons _ t => .cons r t
  | _, _, i + 1, .cons q t => .cons q (Reps.set r i t)
theorem Reps.take {H : Hp} : ∀ {vs : List V} {ds : List D} (n : Nat), Reps K H vs ds → Reps K H (vs.take n) (ds.take n)
  | _, _, 0, _ => .nil
  | _, _, _ + 1, .nil => .nil
  | _, _, n + 1, .cons r t => .cons r (Reps.take n t)
theorem Reps.drop {H : Hp} : ∀ {vs : List V} {ds : List D} (n : Nat), Reps K H vs ds → Reps K H (vs.drop n) (ds.drop n)
  | _, _, 0, r => r
  | _, _, _ + 1, .nil => .nil
  | _, _, n + 1, .cons r t => Reps.drop n t
theorem Reps.reverse {H : Hp} : ∀ {vs : List V} {ds : List D}, Reps K H vs ds → Reps K H vs.reverse ds.reverse
  | _, _, .nil => .nil
  | _, _, .cons r t => by
    rw [List.reverse_cons, List.reverse_cons]
    exact Reps.append (Reps.reverse t) (.cons r .nil)
theorem Reps.dropLast {H : Hp} {vs : List V} {ds : List D} (r : Reps K H vs ds) : Reps K H vs.dropLast ds.dropLast := by
  rw [List.dropLast_eq_take, List.dropLast_eq_take, r.length]
  exact r.take _
theorem Reps.eraseIdx {H : Hp} : ∀ {vs : List V} {ds : List D} (n : Nat), Reps K H vs ds → Reps K H (vs.eraseIdx n) (ds.eraseIdx n)
  | _, _, _, .nil => .nil
  | _, _, 0, .cons _ t => t
  | _, _, n + 1, .cons r t => .cons r (Reps.eraseIdx n t)
theorem Reps.insertIdx {H : Hp} {v : V} {d : D} (q : Rep K H v d) : ∀ {vs : List V} {ds : List D} (n : Nat), Reps K H vs ds → Reps K H (vs.take n ++ v :: vs.drop n) (ds.take n ++ d :: ds.drop n) :=
  fun n r => (r.take n).append (.cons q (r.drop n))
theorem RepF.lookup {H : Hp} {f : Str} {d : D} : ∀ {fs : List (Str × V)} {gs : List (Str × D)}, RepF K H fs gs → gs.lookup f = some d → ∃ v, fs.lookup f = some v ∧ Rep K H v d
  | _, _, .nil, e => by cases e
  | _, _, .cons (x := x) r t, e => by
    simp only [List.lookup_cons] at e ⊢
    cases hx : f == x with
    | true => rw [hx] at e; cases e; exact ⟨_, rfl, r⟩
    | false => rw [hx] at e; exact RepF.lookup t e
theorem RepF.none {H : Hp} {f : Str} : ∀ {fs : List (Str × V)} {gs : List (Str × D)}, RepF K H fs gs → gs.lookup f = none → fs.lookup f = none
  | _, _, .nil, e => rfl
  | _, _, .cons (x := x) r t, e => by
    simp only [List.lookup_cons] at e ⊢
    cases hx : f == x with
    | true => rw [hx] at e; cases e
    | false => rw [hx] at e; exact RepF.none t e
theorem RepF.length {H : Hp} : ∀ {fs : List (Str × V)} {gs : List (Str × D)}, RepF K H fs gs → fs.length = gs.length
  | _, _, .nil => rfl
  | _, _, .cons _ t => by simp [RepF.length t]
/-- putF over data -/
def putD (f : Str) (d : D) : List (Str × D) → List (Str × D)
  | [] => [(f, d)]
  | (g, e) :: t => if g = f then (g, d) :: t else (g, e) :: putD f d t
theorem RepF.put {H : Hp} {f : Str} {v : V} {d : D} (q : Rep K H v d) : ∀ {fs : List (Str × V)} {gs : List (Str × D)}, RepF K H fs gs → RepF K H (putF f v fs) (putD f d gs)
  | _, _, .nil => .cons q .nil
  | _, _, .cons (x := x) r t => by
    unfold putF putD
    by_cases h : x = f
    · rw [if_pos h, if_pos h]; exact .cons q t
    · rw [if_neg h, if_neg h]; exact .cons r (RepF.put q t)
theorem Rep.int_inv {H : Hp} {v : V} {i : Int} (h : Rep K H v (.int i)) : v = .int i := by
  cases h with
  | int => rfl
  | ref s h => cases h
theorem Rep.bl_inv {H : Hp} {v : V} {i : Bool} (h : Rep K H v (.bl i)) : v = .bl i := by
  cases h with
  | bl => rfl
  | ref s h => cases h
theorem Rep.non_inv {H : Hp} {v : V} (h : Rep K H v .non) : v = .non := by
  cases h with
  | non => rfl
  | ref s h => cases h
theorem Rep.str_inv {H : Hp} {v : V} {i : Str} (h : Rep K H v (.str i)) : v = .str i := by
  cases h with
  | str => rfl
  | ref s h => cases h
theorem Rep.lst_inv {H : Hp} {v : V} {ds : List D} (h : Rep K H v (.lst ds)) : ∃ a vs, v = .ref a ∧ H a = some (.lst vs) ∧ Reps K H vs ds := by
  cases h with
  | ref s h => cases h with | lst r => exact ⟨_, _, rfl, s, r⟩
theorem Rep.tup_inv {H : Hp} {v : V} {ds : List D} (h : Rep K H v (.tup ds)) : ∃ a vs, v = .ref a ∧ SqT K H a vs ∧ Reps K H vs ds := by
  cases h with
  | ref s h => cases h with | tup r => exact ⟨_, _, rfl, s, r⟩
theorem Rep.obj_inv {H : Hp} {v : V} {C : Addr} {gs : List (Str × D)} (h : Rep K H v (.obj C gs)) : ∃ a dx fs, v = .ref a ∧ H a = some (.ins C dx fs) ∧ RepF K H fs gs := by
  cases h with
  | ref s h => cases h with | ins r => exact ⟨_, _, _, rfl, s, r⟩

/-! ### 2. hidden addresses, slots, states -/
noncomputable def Hd (M : Addr → Prop) (H : Hp) : Hp := fun a => by
  classical exact if M a then none else H a
theorem Hd_some {M : Addr → Prop} {H : Hp} {a : Addr} {o : HO} : Hd M H a = some o ↔ ¬ M a ∧ H a = some o := by
  unfold Hd
  by_cases h : M a <;> simp [h]
theorem Hd_ext {M : Addr → Prop} {H : Hp} : Ext (Hd M H) H := fun a o h => (Hd_some.mp h).2
theorem Hd_mono {M M' : Addr → Prop} {H H' : Hp} (hm : ∀ a o, H a = some o → ¬ M a → ¬ M' a ∧ H' a = some o) : Ext (Hd M H) (Hd M' H') := fun a o h => by
  obtain ⟨h1, h2⟩ := Hd_some.mp h
  exact Hd_some.mpr (hm a o h2 h1)

/-- the fixed part of a def's run: the heap at its entry, what it may change, what is only lent to it -/
structure Zc where
  H0 : Hp
  M0 : Addr → Prop
  B : Addr → Prop
  pa : Nat → Option Addr
  b0 : ∀ a, B a → H0 a ≠ none
  m0 : ∀ a, M0 a → H0 a ≠ none
  dj : ∀ a, M0 a → ¬ B a

inductive Sl where
  | un | im (d : D) | bo (d : D) | ow (d : D) | pw (k : Nat) (d : D) | va (v : V)

abbrev Un (M B : Addr → Prop) : Addr → Prop := fun a => M a ∨ B a

/-- a value whose outer object is read in H, its parts in Hs -/
def Rep1 (K : PySem.W.Frag) (H Hs : Hp) (v : V) (d : D) : Prop := Rep K Hs v d ∨ ∃ a o, v = .ref a ∧ Shell K H a o ∧ HRep K Hs o d
theorem Rep1.mono {H Hs H' Hs' : Hp} {v : V} {d : D} (e : Ext H H') (es : Ext Hs Hs') : Rep1 K H Hs v d → Rep1 K H' Hs' v d
  | .inl h => .inl (h.mono es)
  | .inr ⟨a, o, h1, h2, h3⟩ => .inr ⟨a, o, h1, h2.mono e, h3.mono es⟩
theorem Rep1.int_inv {H Hs : Hp} {v : V} {i : Int} (h : Rep1 K H Hs v (.int i)) : v = .int i := by
  rcases h with h | ⟨a, o, h1, h2, h3⟩
  · exact h.int_inv
  · cases h3
theorem Rep1.bl_inv {H Hs : Hp} {v : V} {i : Bool} (h : Rep1 K H Hs v (.bl i)) : v = .bl i := by
  rcases h with h | ⟨a, o, h1, h2, h3⟩
  · exact h.bl_inv
  · cases h3
theorem Rep1.str_inv {H Hs : Hp} {v : V} {i : Str} (h : Rep1 K H Hs v (.str i)) : v = .str i := by
  rcases h with h | ⟨a, o, h1, h2, h3⟩
  · exact h.str_inv
  · cases h3
theorem Rep1.non_inv {H Hs : Hp} {v : V} (h : Rep1 K H Hs v .non) : v = .non := by
  rcases h with h | ⟨a, o, h1, h2, h3⟩
  · exact h.non_inv
  · cases h3
theorem Rep1.lst_inv {H Hs : Hp} {v : V} {ds : List D} (x : Ext Hs H) (h : Rep1 K H Hs v (.lst ds)) : ∃ a vs, v = .ref a ∧ H a = some (.lst vs) ∧ Reps K Hs vs ds := by
  rcases h with h | ⟨a, o, h1, h2, h3⟩
  · obtain ⟨a, vs, e, s, r⟩ := h.lst_inv
    exact ⟨a, vs, e, x _ _ s, r⟩
  · cases h3 with | lst r => exact ⟨a, _, h1, h2, r⟩
theorem Rep1.tup_inv {H Hs : Hp} {v : V} {ds : List D} (x : Ext Hs H) (h : Rep1 K H Hs v (.tup ds)) : ∃ a vs, v = .ref a ∧ SqT K H a vs ∧ Reps K Hs vs ds := by
  rcases h with h | ⟨a, o, h1, h2, h3⟩
  · obtain ⟨a, vs, e, s, r⟩ := h.tup_inv
    exact ⟨a, vs, e, x.t s, r⟩
  · cases h3 with | tup r => exact ⟨a, _, h1, h2, r⟩
theorem Rep1.scr_inv {H Hs : Hp} {v : V} {ds : List D} (x : Ext Hs H) (h : Rep1 K H Hs v (.scr ds)) : ∃ a vs, v = .ref a ∧ SqL K H a vs ∧ Reps K Hs vs ds := by
  rcases h with h | ⟨a, o, h1, h2, h3⟩
  · cases h with
    | ref s h => cases h
    | scr s r => exact ⟨_, _, rfl, x.l s, r⟩
  · cases h3
theorem Rep1.obj_inv {H Hs : Hp} {v : V} {C : Addr} {gs : List (Str × D)} (x : Ext Hs H) (h : Rep1 K H Hs v (.obj C gs)) : ∃ a dx fs, v = .ref a ∧ H a = some (.ins C dx fs) ∧ RepF K Hs fs gs := by
  rcases h with h | ⟨a, o, h1, h2, h3⟩
  · obtain ⟨a, dx, fs, e, s, r⟩ := h.obj_inv
    exact ⟨a, dx, fs, e, x _ _ s, r⟩
  · cases h3 with | ins r => exact ⟨a, _, _, h1, h2, r⟩

def SlRel (K : PySem.W.Frag) (Z : Zc) (M : Addr → Prop) (H : Hp) : Sl → Option V → Prop
  | .un, _ => True
  | .va v, ov => ov = some v
  | .im d, ov => ∃ v, ov = some v ∧ Rep K (Hd (Un M Z.B) H) v d
  | .bo d, ov => ∃ v, ov = some v ∧ Rep1 K (Hd M H) (Hd (Un M Z.B) H) v d
  | .ow d, ov => ∃ a o, ov = some (.ref a) ∧ M a ∧ Z.H0 a = none ∧ H a = some o ∧ HRep K (Hd (Un M Z.B) H) o d
  | .pw k d, ov => ∃ a o, ov = some (.ref a) ∧ M a ∧ (Z.M0 a ∧ Z.pa k = some a) ∧ H a = some o ∧ HRep K (Hd (Un M Z.B) H) o d
def Sl.owns : Sl → Bool
  | .ow _ => true
  | .pw _ _ => true
  | _ => false
def OwnAt (Γ : List Sl) (σ : St) (i : Nat) (a : Addr) : Prop := ∃ s, Γ[i]? = some s ∧ s.owns = true ∧ σ[i]? = some (some (.ref a))

structure As (K : PySem.W.Frag) (Z : Zc) (M : Addr → Prop) (Γ : List Sl) (σ : St) (H : Hp) : Prop where
  len : σ.length = Γ.length
  rel : ∀ (i : Nat) (s : Sl) (ov : Option V), Γ[i]? = some s → σ[i]? = some ov → SlRel K Z M H s ov
  dis : ∀ (i j : Nat) (a : Addr), OwnAt Γ σ i a → OwnAt Γ σ j a → i = j
  fr : ∀ b o, Z.H0 b = some o → ¬ Z.M0 b → H b = some o
  m0 : ∀ b, Z.M0 b → M b
  mf : ∀ b, M b → Z.M0 b ∨ Z.H0 b = none
  ml : ∀ b, M b → H b ≠ none

/-- how what is temporarily held stands from one state to a later one -/
structure Tr (Z : Zc) (M : Addr → Prop) (H : Hp) (M' : Addr → Prop) (H' : Hp) : Prop where
  s : Ext (Hd (Un M Z.B) H) (Hd (Un M' Z.B) H')
  b : Ext (Hd M H) (Hd M' H')
theorem Tr.refl (Z : Zc) (M : Addr → Prop) (H : Hp) : Tr Z M H M H := ⟨Ext.refl _, Ext.refl _⟩
theorem Tr.trans {Z : Zc} {M H M1 H1 M2 H2} (a : Tr Z M H M1 H1) (b : Tr Z M1 H1 M2 H2) : Tr Z M H M2 H2 := ⟨a.s.trans b.s, a.b.trans b.b⟩

inductive Rv where
  | d (d : D) | bo (d : D) | own (i : Nat) | new (d : D) | va (v : V)
def RvRel (K : PySem.W.Frag) (Z : Zc) (M : Addr → Prop) (Γ : List Sl) (σ : St) (H : Hp) (v : V) : Rv → Prop
  | .d d => Rep K (Hd (Un M Z.B) H) v d
  | .bo d => Rep1 K (Hd M H) (Hd (Un M Z.B) H) v d
  | .own i => σ[i]? = some (some v)
  | .va u => v = u
  | .new d => ∃ a o, v = .ref a ∧ M a ∧ Z.H0 a = none ∧ H a = some o ∧ HRep K (Hd (Un M Z.B) H) o d ∧ ∀ i, ¬ OwnAt Γ σ i a

def view (Γ : List Sl) : Rv → Option D
  | .d d => some d
  | .bo d => some d
  | .new d => some d
  | .own i => match Γ[i]? with
    | some (.ow d) => some d
    | some (.pw _ d) => some d
    | _ => none
  | .va _ => none

section
variable {Z : Zc} {M : Addr → Prop} {Γ : List Sl} {σ : St} {H : Hp}
theorem As.ext (A : As K Z M Γ σ H) : Ext (Hd (Un M Z.B) H) H := Hd_ext
theorem As.view (A : As K Z M Γ σ H) {v : V} {r : Rv} {d : D} (h : RvRel K Z M Γ σ H v r) (hv : view Γ r = some d) : Rep1 K H (Hd (Un M Z.B) H) v d := by
  cases r with
  | va u => cases hv
  | d d' => cases hv; exact .inl h
  | bo d' => cases hv; exact Rep1.mono Hd_ext (Ext.refl _) h
  | new d' =>
    cases hv
    obtain ⟨a, o, e, _, _, ho, r, _⟩ := h
    exact .inr ⟨a, o, e, Shell.of ho, r⟩
  | own i =>
    have hv : (match Γ[i]? with
      | some (.ow d) => some d
      | some (.pw _ d) => some d
      | _ => none) = some d := hv
    have h' : σ[i]? = some (some v) := h
    cases hs : Γ[i]? with
    | none => rw [hs] at hv; cases hv
    | some s =>
      rw [hs] at hv
      have q := A.rel i s _ hs h'
      cases s with
      | ow d' =>
        cases hv
        obtain ⟨a, o, e, _, _, ho, r⟩ := q
        exact .inr ⟨a, o, Option.some.inj e, Shell.of ho, r⟩
      | pw _ d' =>
        cases hv
        obtain ⟨a, o, e, _, _, ho, r⟩ := q
        exact .inr ⟨a, o, Option.some.inj e, Shell.of ho, r⟩
      | un => cases hv
      | va _ => cases hv
      | im _ => cases hv
      | bo _ => cases hv
theorem As.fresh0 (A : As K Z M Γ σ H) {p : Addr} (h : H p = none) : Z.H0 p = none := by
  cases e : Z.H0 p with
  | none => rfl
  | some o =>
    by_cases hm : Z.M0 p
    · exact absurd h (A.ml p (A.m0 p hm))
    · rw [A.fr p o e hm] at h; cases h
theorem OwnAt.get (A : As K Z M Γ σ H) {i : Nat} {a : Addr} (h : OwnAt Γ σ i a) : M a ∧ H a ≠ none := by
  obtain ⟨s, h1, h2, h3⟩ := h
  have q := A.rel i s _ h1 h3
  cases s with
  | ow d => obtain ⟨a', o, e, m, _, ho, _⟩ := q; cases e; exact ⟨m, by rw [ho]; simp⟩
  | pw _ d => obtain ⟨a', o, e, m, _, ho, _⟩ := q; cases e; exact ⟨m, by rw [ho]; simp⟩
  | un => cases h2
  | va _ => cases h2
  | im _ => cases h2
  | bo _ => cases h2
/-- slots stand when the heap grows, M grows by new addresses -/
theorem SlRel.mono {M' : Addr → Prop} {H' : Hp} {s : Sl} {ov : Option V} (hs : Ext (Hd (Un M Z.B) H) (Hd (Un M' Z.B) H')) (hb : Ext (Hd M H) (Hd M' H')) (hm : ∀ a o, M a → H a = some o → M' a ∧ H' a = some o) (h : SlRel K Z M H s ov) : SlRel K Z M' H' s ov := by
  cases s with
  | un => trivial
  | va u => exact h
  | im d => obtain ⟨v, e, r⟩ := h; exact ⟨v, e, r.mono hs⟩
  | bo d => obtain ⟨v, e, r⟩ := h; exact ⟨v, e, r.mono hb hs⟩
  | ow d => obtain ⟨a, o, e, m, z, ho, r⟩ := h; exact ⟨a, o, e, (hm a o m ho).1, z, (hm a o m ho).2, r.mono hs⟩
  | pw _ d => obtain ⟨a, o, e, m, z, ho, r⟩ := h; exact ⟨a, o, e, (hm a o m ho).1, z, (hm a o m ho).2, r.mono hs⟩
/-- a new object, hidden at once -/
theorem As.alloc (A : As K Z M Γ σ H) {p : Addr} {o : HO} (hp : H p = none) : As K Z (fun a => M a ∨ a = p) Γ σ (upd H p o) ∧ Tr Z M H (fun a => M a ∨ a = p) (upd H p o) := by
  have hs : Ext (Hd (Un M Z.B) H) (Hd (Un (fun a => M a ∨ a = p) Z.B) (upd H p o)) := Hd_mono fun a u h n => by
    have ne : a ≠ p := ne_of_none h hp
    refine ⟨fun q => ?_, by rw [upd_ne ne]; exact h⟩
    rcases q with (q | q) | q
    · exact n (.inl q)
    · exact ne q
    · exact n (.inr q)
  have hb : Ext (Hd M H) (Hd (fun a => M a ∨ a = p) (upd H p o)) := Hd_mono fun a u h n => by
    have ne : a ≠ p := ne_of_none h hp
    exact ⟨fun q => q.elim n ne, by rw [upd_ne ne]; exact h⟩
  refine ⟨⟨A.len, fun i s ov h1 h2 => (A.rel i s ov h1 h2).mono hs hb fun a u m h => ⟨.inl m, by rw [upd_ne (ne_of_none h hp)]; exact h⟩, A.dis, fun b u h n => ?_, fun b h => .inl (A.m0 b h), fun b h => ?_, fun b h => ?_⟩, ⟨hs, hb⟩⟩
  · have q := A.fr b u h n
    rw [upd_ne (ne_of_none q hp)]; exact q
  · rcases h with h | h
    · exact A.mf b h
    · subst h; exact .inr (A.fresh0 hp)
  · by_cases e : b = p
    · subst e; rw [upd_same]; simp
    · rw [upd_ne e]
      exact A.ml b (h.resolve_right e)
/-- the heap grows by unhidden objects -/
theorem As.grow (A : As K Z M Γ σ H) {H' : Hp} (e : Ext H H') : As K Z M Γ σ H' ∧ Tr Z M H M H' := by
  have hs : Ext (Hd (Un M Z.B) H) (Hd (Un M Z.B) H') := Hd_mono fun a u h n => ⟨n, e a u h⟩
  have hb : Ext (Hd M H) (Hd M H') := Hd_mono fun a u h n => ⟨n, e a u h⟩
  refine ⟨⟨A.len, fun i s ov h1 h2 => (A.rel i s ov h1 h2).mono hs hb fun a u m h => ⟨m, e a u h⟩, A.dis, fun b u h n => e b u (A.fr b u h n), A.m0, A.mf, fun b h => ?_⟩, ⟨hs, hb⟩⟩
  cases q : H b with
  | none => exact absurd q (A.ml b h)
  | some o => rw [e b o q]; simp
/-- a hidden new object that no slot owns is shown -/
theorem As.free (A : As K Z M Γ σ H) {a : Addr} (h0 : Z.H0 a = none) (hn : ∀ i, ¬ OwnAt Γ σ i a) : As K Z (fun b => M b ∧ b ≠ a) Γ σ H ∧ Tr Z M H (fun b => M b ∧ b ≠ a) H := by
  have hs : Ext (Hd (Un M Z.B) H) (Hd (Un (fun b => M b ∧ b ≠ a) Z.B) H) := Hd_mono fun b u h n => ⟨fun q => n (q.elim (fun q => .inl q.1) .inr), h⟩
  have hb : Ext (Hd M H) (Hd (fun b => M b ∧ b ≠ a) H) := Hd_mono fun b u h n => ⟨fun q => n q.1, h⟩
  refine ⟨⟨A.len, fun i s ov h1 h2 => ?_, A.dis, A.fr, fun b h => ⟨A.m0 b h, fun e => Z.m0 b h (e ▸ h0)⟩, fun b h => A.mf b h.1, fun b h => A.ml b h.1⟩, ⟨hs, hb⟩⟩
  have q := A.rel i s ov h1 h2
  cases s with
  | un => trivial
  | va u => exact q
  | im d => obtain ⟨v, e, r⟩ := q; exact ⟨v, e, r.mono hs⟩
  | bo d => obtain ⟨v, e, r⟩ := q; exact ⟨v, e, r.mono hb hs⟩
  | ow d =>
    obtain ⟨b, o, e, m, z, ho, r⟩ := q
    refine ⟨b, o, e, ⟨m, fun eb => hn i ⟨_, h1, rfl, by rw [h2, e, eb]⟩⟩, z, ho, r.mono hs⟩
  | pw _ d =>
    obtain ⟨b, o, e, m, z, ho, r⟩ := q
    refine ⟨b, o, e, ⟨m, fun eb => hn i ⟨_, h1, rfl, by rw [h2, e, eb]⟩⟩, z, ho, r.mono hs⟩
/-- a slot's description is weakened or changed, the slots stay -/
theorem As.slot (A : As K Z M Γ σ H) {i : Nat} {s : Sl} (hr : ∀ ov, σ[i]? = some ov → SlRel K Z M H s ov) (ho : ∀ j a, s.owns = true → σ[i]? = some (some (.ref a)) → OwnAt Γ σ j a → j = i) : As K Z M (Γ.set i s) σ H := by
  refine ⟨by rw [List.length_set]; exact A.len, fun j t ov h1 h2 => ?_, fun j k a h1 h2 => ?_, A.fr, A.m0, A.mf, A.ml⟩
  · by_cases e : i = j
    · subst e
      have hl : i < Γ.length := by
        rcases Nat.lt_or_ge i Γ.length with h | h
        · exact h
        · rw [List.getElem?_eq_none (by simpa using h)] at h1; cases h1
      rw [List.getElem?_set_self hl] at h1; cases h1
      exact hr ov h2
    · rw [List.getElem?_set_ne e] at h1; exact A.rel j t ov h1 h2
  · have sp : ∀ {j a}, OwnAt (Γ.set i s) σ j a → (j = i ∧ s.owns = true ∧ σ[i]? = some (some (.ref a))) ∨ (i ≠ j ∧ OwnAt Γ σ j a) := fun {j a} h => by
      obtain ⟨t, x1, x2, x3⟩ := h
      by_cases e : i = j
      · subst e
        have hl : i < Γ.length := by
          rcases Nat.lt_or_ge i Γ.length with h | h
          · exact h
          · rw [List.getElem?_eq_none (by simpa using h)] at x1; cases x1
        rw [List.getElem?_set_self hl] at x1; cases x1
        exact .inl ⟨rfl, x2, x3⟩
      · rw [List.getElem?_set_ne e] at x1
        exact .inr ⟨e, t, x1, x2, x3⟩
    rcases sp h1 with ⟨rfl, o1, s1⟩ | ⟨n1, o1⟩
    · rcases sp h2 with ⟨rfl, o2, s2⟩ | ⟨n2, o2⟩
      · rfl
      · exact (ho k a o1 s1 o2).symm
    · rcases sp h2 with ⟨rfl, o2, s2⟩ | ⟨n2, o2⟩
      · exact ho j a o2 s2 o1
      · exact A.dis j k a o1 o2
/-- a slot gets a value -/
theorem As.put (A : As K Z M Γ σ H) {i : Nat} {s : Sl} {v : V} (hr : SlRel K Z M H s (some v)) (ho : ∀ j a, s.owns = true → v = .ref a → OwnAt Γ σ j a → j = i) : As K Z M (Γ.set i s) (σ.set i (some v)) H := by
  by_cases hi : i < σ.length
  · have gi : (σ.set i (some v))[i]? = some (some v) := List.getElem?_set_self hi
    have gl : i < Γ.length := by rw [← A.len]; exact hi
    have oj : ∀ {j a}, i ≠ j → OwnAt (Γ.set i s) (σ.set i (some v)) j a → OwnAt Γ σ j a := fun {j a} n h => by
      obtain ⟨t, x1, x2, x3⟩ := h
      rw [List.getElem?_set_ne n] at x1 x3
      exact ⟨t, x1, x2, x3⟩
    have oi : ∀ {a}, OwnAt (Γ.set i s) (σ.set i (some v)) i a → s.owns = true ∧ v = .ref a := fun {a} h => by
      obtain ⟨t, x1, x2, x3⟩ := h
      rw [List.getElem?_set_self gl] at x1; cases x1
      rw [gi] at x3
      exact ⟨x2, Option.some.inj (Option.some.inj x3)⟩
    refine ⟨by rw [List.length_set, List.length_set]; exact A.len, fun j t ov h1 h2 => ?_, fun j k a h1 h2 => ?_, A.fr, A.m0, A.mf, A.ml⟩
    · by_cases e : i = j
      · subst e
        rw [List.getElem?_set_self gl] at h1; cases h1
        rw [gi] at h2; cases h2
        exact hr
      · rw [List.getElem?_set_ne e] at h1 h2; exact A.rel j t ov h1 h2
    · by_cases ej : i = j
      · subst ej
        by_cases ek : i = k
        · exact ek
        · obtain ⟨w1, w2⟩ := oi h1
          exact (ho k a w1 w2 (oj ek h2)).symm
      · by_cases ek : i = k
        · subst ek
          obtain ⟨w1, w2⟩ := oi h2
          exact ho j a w1 w2 (oj ej h1)
        · exact A.dis j k a (oj ej h1) (oj ek h2)
  · have e1 : σ.set i (some v) = σ := List.set_eq_of_length_le (by omega)
    have e2 : Γ.set i s = Γ := List.set_eq_of_length_le (by rw [← A.len]; omega)
    rw [e1, e2]; exact A
end
end Lw

namespace Lw
open PySem L2
/-! ### 3. judgements -/
def tOf (K : PySem.W.Frag) (Z : Zc) (Γ : List Sl) (N : Rv → List Sl → Prop) : TE := fun σ H Q => ∃ M, As K Z M Γ σ H ∧
  ∀ r v Γ' M' H', N r Γ' → As K Z M' Γ' σ H' → Tr Z M H M' H' → RvRel K Z M' Γ' σ H' v r → Q v H'
abbrev EW (X : Cx) (Z : Zc) (Γ : List Sl) (e : Expr) (N : Rv → List Sl → Prop) : Prop := PE X e (tOf X.K Z Γ N)
def ttOf (K : PySem.W.Frag) (Z : Zc) (Γ : List Sl) (N : Bool → List Sl → Prop) : TT := fun σ H Q => ∃ M, As K Z M Γ σ H ∧
  ∀ b Γ' M' H', N b Γ' → As K Z M' Γ' σ H' → Tr Z M H M' H' → Q b H'
abbrev TW (X : Cx) (Z : Zc) (Γ : List Sl) (e : Expr) (N : Bool → List Sl → Prop) : Prop := PT X e (ttOf X.K Z Γ N)
abbrev WW (X : Cx) (Z : Zc) (Γ : List Sl) (e : Expr) (N : Bool → List Sl → Prop) : Prop := PW X e (ttOf X.K Z Γ N)
inductive RvsRel (K : PySem.W.Frag) (Z : Zc) (M : Addr → Prop) (Γ : List Sl) (σ : St) (H : Hp) : List V → List Rv → Prop
  | nil : RvsRel K Z M Γ σ H [] []
  | cons {v r vs rs} : RvRel K Z M Γ σ H v r → RvsRel K Z M Γ σ H vs rs → RvsRel K Z M Γ σ H (v :: vs) (r :: rs)
def taOf (K : PySem.W.Frag) (Z : Zc) (Γ : List Sl) (N : List Rv → List Sl → Prop) : TA := fun σ H Q => ∃ M, As K Z M Γ σ H ∧
  ∀ rs vs Γ' M' H', N rs Γ' → (∀ r ∈ rs, ∀ d, r ≠ Rv.new d) → As K Z M' Γ' σ H' → Tr Z M H M' H' → RvsRel K Z M' Γ' σ H' vs rs → Q vs H'
abbrev AW (X : Cx) (Z : Zc) (Γ : List Sl) (es : List Expr) (N : List Rv → List Sl → Prop) : Prop := PA X es (taOf X.K Z Γ N)
/-- what is wanted behind statements -/
structure Po where
  nx : List Sl → Prop
  rt : Rv → List Sl → Prop
  bk : List Sl → Prop := fun _ => False
  ct : List Sl → Prop := fun _ => False
def tsOf (K : PySem.W.Frag) (Z : Zc) (Γ : List Sl) (P : Po) : TS := fun D σ H => ∃ M, As K Z M Γ σ H ∧
  (∀ Γ' M' σ' H', P.nx Γ' → As K Z M' Γ' σ' H' → Tr Z M H M' H' → D.nx σ' H') ∧
  (∀ r v Γ' M' σ' H', P.rt r Γ' → As K Z M' Γ' σ' H' → RvRel K Z M' Γ' σ' H' v r → D.rt v H') ∧
  (∀ Γ' M' σ' H', P.bk Γ' → As K Z M' Γ' σ' H' → Tr Z M H M' H' → D.bk σ' H') ∧
  (∀ Γ' M' σ' H', P.ct Γ' → As K Z M' Γ' σ' H' → Tr Z M H M' H' → D.ct σ' H')
abbrev SW (X : Cx) (Z : Zc) (Γ : List Sl) (st : Stmt) (P : Po) : Prop := PS X st (tsOf X.K Z Γ P)
abbrev SS (X : Cx) (Z : Zc) (Γ : List Sl) (st : List Stmt) (P : Po) : Prop := PSs X st (tsOf X.K Z Γ P)

section
variable {X : Cx} {Z : Zc} {Γ : List Sl}
theorem pe_imp {e : Expr} {t t' : TE} (h : PE X e t) (i : ∀ σ H Q, t' σ H Q → t σ H Q) : PE X e t' := ⟨fun pins s σ H Q I w => h.run pins s σ H Q I (i _ _ _ w)⟩
theorem pt_imp {e : Expr} {t t' : TT} (h : PT X e t) (i : ∀ σ H Q, t' σ H Q → t σ H Q) : PT X e t' := ⟨fun pins s σ H Q I w => h.run pins s σ H Q I (i _ _ _ w)⟩
theorem pw_imp {e : Expr} {t t' : TT} (h : PW X e t) (i : ∀ σ H Q, t' σ H Q → t σ H Q) : PW X e t' := ⟨fun wh pins s σ H Q I w => h.run wh pins s σ H Q I (i _ _ _ w)⟩
theorem pa_imp {e : List Expr} {t t' : TA} (h : PA X e t) (i : ∀ σ H Q, t' σ H Q → t σ H Q) : PA X e t' := ⟨fun pos pins s σ H Q I w => h.run pos pins s σ H Q I (i _ _ _ w)⟩
theorem ps_imp {e : Stmt} {t t' : TS} (h : PS X e t) (i : ∀ D σ H, t' D σ H → t D σ H) : PS X e t' := ⟨fun pins s σ H D I w => h.run pins s σ H D I (i _ _ _ w)⟩
theorem pss_imp {e : List Stmt} {t t' : TS} (h : PSs X e t) (i : ∀ D σ H, t' D σ H → t D σ H) : PSs X e t' := ⟨fun pins s σ H D I w => h.run pins s σ H D I (i _ _ _ w)⟩
theorem pe_ex {ι : Type} {p : ι → Prop} {e : Expr} {t : ι → TE} (h : ∀ i, p i → PE X e (t i)) : PE X e (fun σ H Q => ∃ i, p i ∧ t i σ H Q) := ⟨fun pins s σ H Q I ⟨i, hi, w⟩ => (h i hi).run pins s σ H Q I w⟩
theorem pt_ex {ι : Type} {p : ι → Prop} {e : Expr} {t : ι → TT} (h : ∀ i, p i → PT X e (t i)) : PT X e (fun σ H Q => ∃ i, p i ∧ t i σ H Q) := ⟨fun pins s σ H Q I ⟨i, hi, w⟩ => (h i hi).run pins s σ H Q I w⟩
theorem pw_ex {ι : Type} {p : ι → Prop} {e : Expr} {t : ι → TT} (h : ∀ i, p i → PW X e (t i)) : PW X e (fun σ H Q => ∃ i, p i ∧ t i σ H Q) := ⟨fun wh pins s σ H Q I ⟨i, hi, w⟩ => (h i hi).run wh pins s σ H Q I w⟩
theorem pa_ex {ι : Type} {p : ι → Prop} {e : List Expr} {t : ι → TA} (h : ∀ i, p i → PA X e (t i)) : PA X e (fun σ H Q => ∃ i, p i ∧ t i σ H Q) := ⟨fun pos pins s σ H Q I ⟨i, hi, w⟩ => (h i hi).run pos pins s σ H Q I w⟩
theorem ps_ex {ι : Type} {p : ι → Prop} {e : Stmt} {t : ι → TS} (h : ∀ i, p i → PS X e (t i)) : PS X e (fun D σ H => ∃ i, p i ∧ t i D σ H) := ⟨fun pins s σ H D I ⟨i, hi, w⟩ => (h i hi).run pins s σ H D I w⟩
theorem pss_ex {ι : Type} {p : ι → Prop} {e : List Stmt} {t : ι → TS} (h : ∀ i, p i → PSs X e (t i)) : PSs X e (fun D σ H => ∃ i, p i ∧ t i D σ H) := ⟨fun pins s σ H D I ⟨i, hi, w⟩ => (h i hi).run pins s σ H D I w⟩
theorem pss_if {p : Prop} {e : List Stmt} {t : TS} (h : p → PSs X e t) : PSs X e (fun D σ H => p ∧ t D σ H) := ⟨fun pins s σ H D I ⟨hp, w⟩ => (h hp).run pins s σ H D I w⟩
theorem EW.mono {e : Expr} {N N' : Rv → List Sl → Prop} (h : EW X Z Γ e N) (i : ∀ r Γ', N r Γ' → N' r Γ') : EW X Z Γ e N' := pe_imp h fun σ H Q ⟨M, A, k⟩ => ⟨M, A, fun r v Γ' M' H' n => k r v Γ' M' H' (i r Γ' n)⟩
theorem TW.mono {e : Expr} {N N' : Bool → List Sl → Prop} (h : TW X Z Γ e N) (i : ∀ r Γ', N r Γ' → N' r Γ') : TW X Z Γ e N' := pt_imp h fun σ H Q ⟨M, A, k⟩ => ⟨M, A, fun r Γ' M' H' n => k r Γ' M' H' (i r Γ' n)⟩
theorem WW.mono {e : Expr} {N N' : Bool → List Sl → Prop} (h : WW X Z Γ e N) (i : ∀ r Γ', N r Γ' → N' r Γ') : WW X Z Γ e N' := pw_imp h fun σ H Q ⟨M, A, k⟩ => ⟨M, A, fun r Γ' M' H' n => k r Γ' M' H' (i r Γ' n)⟩
theorem AW.mono {e : List Expr} {N N' : List Rv → List Sl → Prop} (h : AW X Z Γ e N) (i : ∀ r Γ', N r Γ' → N' r Γ') : AW X Z Γ e N' := pa_imp h fun σ H Q ⟨M, A, k⟩ => ⟨M, A, fun r v Γ' M' H' n => k r v Γ' M' H' (i r Γ' n)⟩
theorem SW.mono {e : Stmt} {P P' : Po} (h : SW X Z Γ e P) (i : ∀ Γ', P.nx Γ' → P'.nx Γ') (ir : ∀ r Γ', P.rt r Γ' → P'.rt r Γ') (ib : ∀ Γ', P.bk Γ' → P'.bk Γ') (ic : ∀ Γ', P.ct Γ' → P'.ct Γ') : SW X Z Γ e P' := ps_imp h fun D σ H ⟨M, A, k1, k2, k3, k4⟩ =>
  ⟨M, A, fun _ _ _ _ n => k1 _ _ _ _ (i _ n), fun _ _ _ _ _ _ n => k2 _ _ _ _ _ _ (ir _ _ n), fun _ _ _ _ n => k3 _ _ _ _ (ib _ n), fun _ _ _ _ n => k4 _ _ _ _ (ic _ n)⟩
theorem SS.mono {e : List Stmt} {P P' : Po} (h : SS X Z Γ e P) (i : ∀ Γ', P.nx Γ' → P'.nx Γ') (ir : ∀ r Γ', P.rt r Γ' → P'.rt r Γ') (ib : ∀ Γ', P.bk Γ' → P'.bk Γ') (ic : ∀ Γ', P.ct Γ' → P'.ct Γ') : SS X Z Γ e P' := pss_imp h fun D σ H ⟨M, A, k1, k2, k3, k4⟩ =>
  ⟨M, A, fun _ _ _ _ n => k1 _ _ _ _ (i _ n), fun _ _ _ _ _ _ n => k2 _ _ _ _ _ _ (ir _ _ n), fun _ _ _ _ n => k3 _ _ _ _ (ib _ n), fun _ _ _ _ n => k4 _ _ _ _ (ic _ n)⟩

/-- on from a later state -/
theorem ends_tr {K : PySem.W.Frag} {P : Po} {D : Ends} {M M1 : Addr → Prop} {H H1 : Hp} (T : Tr Z M H M1 H1)
    (k : (∀ Γ' M' σ' H', P.nx Γ' → As K Z M' Γ' σ' H' → Tr Z M H M' H' → D.nx σ' H') ∧ (∀ r v Γ' M' σ' H', P.rt r Γ' → As K Z M' Γ' σ' H' → RvRel K Z M' Γ' σ' H' v r → D.rt v H') ∧
      (∀ Γ' M' σ' H', P.bk Γ' → As K Z M' Γ' σ' H' → Tr Z M H M' H' → D.bk σ' H') ∧ (∀ Γ' M' σ' H', P.ct Γ' → As K Z M' Γ' σ' H' → Tr Z M H M' H' → D.ct σ' H')) :
    (∀ Γ' M' σ' H', P.nx Γ' → As K Z M' Γ' σ' H' → Tr Z M1 H1 M' H' → D.nx σ' H') ∧ (∀ r v Γ' M' σ' H', P.rt r Γ' → As K Z M' Γ' σ' H' → RvRel K Z M' Γ' σ' H' v r → D.rt v H') ∧
      (∀ Γ' M' σ' H', P.bk Γ' → As K Z M' Γ' σ' H' → Tr Z M1 H1 M' H' → D.bk σ' H') ∧ (∀ Γ' M' σ' H', P.ct Γ' → As K Z M' Γ' σ' H' → Tr Z M1 H1 M' H' → D.ct σ' H') :=
  ⟨fun _ _ _ _ n A' T' => k.1 _ _ _ _ n A' (T.trans T'), k.2.1, fun _ _ _ _ n A' T' => k.2.2.1 _ _ _ _ n A' (T.trans T'), fun _ _ _ _ n A' T' => k.2.2.2 _ _ _ _ n A' (T.trans T')⟩
/-! ### 4. shifts of view -/
/-- a new object is shown, where something else follows -/
def Fz (r : Rv) (Γ : List Sl) (k : Rv → List Sl → Prop) : Prop := match r with
  | .new d => k (.d d) Γ
  | r => k r Γ
/-- as data for ever -/
def Im (r : Rv) (Γ : List Sl) (k : D → List Sl → Prop) : Prop := match r with
  | .d d => k d Γ
  | .new d => k d Γ
  | .bo _ => False
  | .va _ => False
  | .own i => match Γ[i]? with
    | some (.ow d) => k d (Γ.set i (.im d))
    | _ => False
variable {M : Addr → Prop} {σ : St} {H : Hp} {v : V} {r : Rv} {K : PySem.W.Frag}
theorem HRep.ref {a : Addr} {o : HO} {d : D} (h : HRep K H o d) (ha : H a = some o) : Rep K H (.ref a) d := .ref (Shell.of ha) h
theorem As.show_new (A : As K Z M Γ σ H) {d : D} (h : RvRel K Z M Γ σ H v (.new d)) : ∃ M', As K Z M' Γ σ H ∧ Tr Z M H M' H ∧ RvRel K Z M' Γ σ H v (.d d) := by
  obtain ⟨a, o, e, ma, z, ho, r, n⟩ := h
  obtain ⟨A', T⟩ := A.free z n
  refine ⟨_, A', T, ?_⟩
  subst e
  refine HRep.ref (r.mono T.s) (Hd_some.mpr ⟨?_, ho⟩)
  rintro (q | q)
  · exact q.2 rfl
  · exact Z.b0 a q z
theorem As.fz (A : As K Z M Γ σ H) (h : RvRel K Z M Γ σ H v r) {k : Rv → List Sl → Prop} (hk : Fz r Γ k) : ∃ M' r', As K Z M' Γ σ H ∧ Tr Z M H M' H ∧ RvRel K Z M' Γ σ H v r' ∧ k r' Γ := by
  cases r with
  | new d =>
    obtain ⟨M', A', T, h'⟩ := A.show_new h
    exact ⟨M', _, A', T, h', hk⟩
  | d d => exact ⟨M, _, A, Tr.refl _ _ _, h, hk⟩
  | bo d => exact ⟨M, _, A, Tr.refl _ _ _, h, hk⟩
  | own i => exact ⟨M, _, A, Tr.refl _ _ _, h, hk⟩
  | va u => exact ⟨M, _, A, Tr.refl _ _ _, h, hk⟩
theorem As.im (A : As K Z M Γ σ H) (h : RvRel K Z M Γ σ H v r) {k : D → List Sl → Prop} (hk : Im r Γ k) : ∃ M' d Γ', As K Z M' Γ' σ H ∧ Tr Z M H M' H ∧ RvRel K Z M' Γ' σ H v (.d d) ∧ k d Γ' := by
  cases r with
  | new d =>
    obtain ⟨M', A', T, h'⟩ := A.show_new h
    exact ⟨M', _, _, A', T, h', hk⟩
  | d d => exact ⟨M, _, _, A, Tr.refl _ _ _, h, hk⟩
  | bo d => exact hk.elim
  | va u => exact hk.elim
  | own i =>
    have h' : σ[i]? = some (some v) := h
    cases hs : Γ[i]? with
    | none => simp only [Im, hs] at hk
    | some s =>
      cases s with
      | ow d =>
        simp only [Im, hs] at hk
        obtain ⟨a, o, e, ma, z, ho, rr⟩ := A.rel i _ _ hs h'
        cases e
        have n : ∀ j, OwnAt Γ σ j a → j = i := fun j q => A.dis j i a q ⟨_, hs, rfl, h'⟩
        have sl : ∀ ov, σ[i]? = some ov → SlRel K Z M H (.un) ov := fun _ _ => trivial
        -- forget the slot, show the object, say the slot anew
        have A1 := A.slot (i := i) (s := .un) sl (fun j b q => nomatch q)
        have hl : i < Γ.length := by
          rcases Nat.lt_or_ge i Γ.length with q | q
          · exact q
          · rw [List.getElem?_eq_none (by simpa using q)] at hs; cases hs
        have n1 : ∀ j, ¬ OwnAt (Γ.set i .un) σ j a := fun j ⟨t, x1, x2, x3⟩ => by
          by_cases ej : i = j
          · subst ej
            rw [List.getElem?_set_self hl] at x1; cases x1; cases x2
          · rw [List.getElem?_set_ne ej] at x1
            exact ej (n j ⟨t, x1, x2, x3⟩).symm
        obtain ⟨A2, T⟩ := A1.free z n1
        have rp : Rep K (Hd (Un (fun b => M b ∧ b ≠ a) Z.B) H) (.ref a) d := HRep.ref (rr.mono T.s) (Hd_some.mpr ⟨fun q => q.elim (fun q => q.2 rfl) (fun q => Z.b0 a q z), ho⟩)
        have A3 := A2.slot (i := i) (s := .im d) (fun ov e => by rw [h'] at e; cases e; exact ⟨_, rfl, rp⟩) (fun j b q => nomatch q)
        rw [List.set_set] at A3
        exact ⟨_, d, _, A3, T, rp, hk⟩
      | pw _ d => simp only [Im, hs] at hk
      | un => simp only [Im, hs] at hk
      | im _ => simp only [Im, hs] at hk
      | bo _ => simp only [Im, hs] at hk
      | va _ => simp only [Im, hs] at hk
theorem RvRel.tr {M' : Addr → Prop} {H' : Hp} {Γ' : List Sl} (T : Tr Z M H M' H') (h : RvRel K Z M Γ σ H v r) (hn : ∀ d, r ≠ .new d) : RvRel K Z M' Γ' σ H' v r := by
  cases r with
  | d d => exact Rep.mono T.s h
  | bo d => exact Rep1.mono T.b T.s h
  | own i => exact h
  | va u => exact h
  | new d => exact absurd rfl (hn d)
theorem Fz.imp {k k' : Rv → List Sl → Prop} (h : Fz r Γ k) (i : ∀ r' , (∀ d, r' ≠ .new d) → k r' Γ → k' r' Γ) : Fz r Γ k' := by
  cases r with
  | new d => exact i _ (fun _ => by simp) h
  | d d => exact i _ (fun _ => by simp) h
  | bo d => exact i _ (fun _ => by simp) h
  | own j => exact i _ (fun _ => by simp) h
  | va u => exact i _ (fun _ => by simp) h
theorem As.fz' (A : As K Z M Γ σ H) (h : RvRel K Z M Γ σ H v r) {k : Rv → List Sl → Prop} (hk : Fz r Γ k) : ∃ M' r', As K Z M' Γ σ H ∧ Tr Z M H M' H ∧ RvRel K Z M' Γ σ H v r' ∧ (∀ d, r' ≠ .new d) ∧ k r' Γ := by
  have := A.fz h (k := fun r' Γ' => (∀ d, r' ≠ .new d) ∧ k r' Γ') (hk.imp fun r' n q => ⟨n, q⟩)
  obtain ⟨M', r', a, b, c, d, e⟩ := this
  exact ⟨M', r', a, b, c, d, e⟩

/-! ### 5. expressions -/
def rvOf (i : Nat) : Sl → Rv
  | .im d => .d d
  | .bo d => .bo d
  | .ow _ => .own i
  | .pw _ _ => .own i
  | .un => .own i
  | .va v => .va v
variable {N : Rv → List Sl → Prop} {a b e : Expr} {pos : Pos}
theorem ew_var {i : Nat} {x : Str} {s : Sl} (hN : X.N[i]? = some x) (hv : Vis X.env.scope x) (hs : Γ[i]? = some s) (h : N (rvOf i s) Γ)
    (hu : (match s with | .un => False | _ => True) := by exact trivial) (hd : (x == ("__debug__" : Str)) = false := by decide) (hcd : (x == ("__classdict__" : Str)) = false := by decide) : EW X Z Γ (.Name x pos) N := by
  refine pe_imp (pe_var hN hv hd hcd) fun σ H Q ⟨M, A, k⟩ => ?_
  have hl : i < σ.length := by
    rw [A.len]
    rcases Nat.lt_or_ge i Γ.length with q | q
    · exact q
    · rw [List.getElem?_eq_none (by simpa using q)] at hs; cases hs
  have hσ : σ[i]? = some σ[i] := List.getElem?_eq_getElem hl
  have q := A.rel i s _ hs hσ
  cases s with
  | un => exact hu.elim
  | va u =>
    have e : σ[i] = some u := q
    exact ⟨u, by rw [hσ, e], k _ u Γ M H h A (Tr.refl _ _ _) rfl⟩
  | im d =>
    obtain ⟨v, e, r⟩ := q
    exact ⟨v, by rw [hσ, e], k _ v Γ M H h A (Tr.refl _ _ _) r⟩
  | bo d =>
    obtain ⟨v, e, r⟩ := q
    exact ⟨v, by rw [hσ, e], k _ v Γ M H h A (Tr.refl _ _ _) r⟩
  | ow d =>
    obtain ⟨a, o, e, r⟩ := q
    exact ⟨.ref a, by rw [hσ, e], k _ _ Γ M H h A (Tr.refl _ _ _) (show σ[i]? = some (some (V.ref a)) by rw [hσ, e])⟩
  | pw _ d =>
    obtain ⟨a, o, e, r⟩ := q
    exact ⟨.ref a, by rw [hσ, e], k _ _ Γ M H h A (Tr.refl _ _ _) (show σ[i]? = some (some (V.ref a)) by rw [hσ, e])⟩
theorem ew_int {i : Int} {j : Nat} (h : N (.d (.int i)) Γ) : EW X Z Γ (.Constant (.int i) j pos) N := pe_imp pe_int fun σ H Q ⟨M, A, k⟩ => k _ _ Γ M H h A (Tr.refl _ _ _) (Rep.int i)
theorem ew_bl {i : Bool} {j : Nat} (h : N (.d (.bl i)) Γ) : EW X Z Γ (.Constant (.bool i) j pos) N := pe_imp pe_bl fun σ H Q ⟨M, A, k⟩ => k _ _ Γ M H h A (Tr.refl _ _ _) (Rep.bl i)
theorem ew_non {j : Nat} (h : N (.d .non) Γ) : EW X Z Γ (.Constant .none j pos) N := pe_imp pe_non fun σ H Q ⟨M, A, k⟩ => k _ _ Γ M H h A (Tr.refl _ _ _) Rep.non
theorem ew_str {i : Str} {j : Nat} (h : N (.d (.str i)) Γ) : EW X Z Γ (.Constant (.str i) j pos) N := pe_imp pe_str fun σ H Q ⟨M, A, k⟩ => k _ _ Γ M H h A (Tr.refl _ _ _) (Rep.str i)

/-- what an operation gives: data, or a new object -/
inductive Rs where
  | sc (d : D) | nw (d : D)
def Rs.rv : Rs → Rv
  | .sc d => .d d
  | .nw d => .new d
/-- z in H' is the answer of an operation at H, whose parts stand in Hs -/
def RsOK (K : PySem.W.Frag) (Hs H : Hp) (z : V) (H' : Hp) : Rs → Prop
  | .sc d => (H' = H ∧ Rep K Hs z d) ∨ ∃ p o, z = .ref p ∧ H p = none ∧ H' = upd H p o ∧ HRep K Hs o d
  | .nw d => ∃ p o, z = .ref p ∧ H p = none ∧ H' = upd H p o ∧ HRep K Hs o d
theorem OwnAt.ne {a : Addr} (A : As K Z M Γ σ H) (ha : H a = none) : ∀ i, ¬ OwnAt Γ σ i a := fun i q => (q.get A).2 ha
theorem As.rs (A : As K Z M Γ σ H) {z : V} {H' : Hp} {rs : Rs} (h : RsOK K (Hd (Un M Z.B) H) H z H' rs) : ∃ M', As K Z M' Γ σ H' ∧ Tr Z M H M' H' ∧ RvRel K Z M' Γ σ H' z rs.rv := by
  cases rs with
  | sc d =>
    rcases h with ⟨e, r⟩ | ⟨p, o, e, hp, eh, r⟩
    · subst e
      exact ⟨M, A, Tr.refl _ _ _, r⟩
    · subst e; subst eh
      obtain ⟨A', T⟩ := A.grow (Ext.new (o := o) hp)
      refine ⟨M, A', T, HRep.ref (r.mono T.s) (Hd_some.mpr ⟨fun q => ?_, upd_same⟩)⟩
      rcases q with q | q
      · exact A.ml p q hp
      · exact Z.b0 p q (A.fresh0 hp)
  | nw d =>
    obtain ⟨p, o, e, hp, eh, r⟩ := h
    subst eh
    obtain ⟨A', T⟩ := A.alloc (o := o) hp
    refine ⟨_, A', T, p, o, e, .inr rfl, A.fresh0 hp, upd_same, r.mono T.s, fun i q => ?_⟩
    obtain ⟨s, h1, h2, h3⟩ := q
    have q' : OwnAt Γ σ i p := ⟨s, h1, h2, h3⟩
    exact OwnAt.ne A hp i q'
/-- two-place operations over data -/
def Op2 (K : PySem.W.Frag) (r : R2) (d1 d2 : D) (rs : Rs) : Prop := ∀ H Hs, Ext Hs H → ∀ x y Q, Rep1 K H Hs x d1 → Rep1 K H Hs y d2 → (∀ z H', RsOK K Hs H z H' rs → Q z H') → r x y H Q
def Op1 (K : PySem.W.Frag) (r : V → Hp → VK → Prop) (d1 : D) (rs : Rs) : Prop := ∀ H Hs, Ext Hs H → ∀ x Q, Rep1 K H Hs x d1 → (∀ z H', RsOK K Hs H z H' rs → Q z H') → r x H Q
inductive Reps1 (K : PySem.W.Frag) (H Hs : Hp) : List V → List D → Prop
  | nil : Reps1 K H Hs [] []
  | cons {v d vs ds} : Rep1 K H Hs v d → Reps1 K H Hs vs ds → Reps1 K H Hs (v :: vs) (d :: ds)
def OpN (K : PySem.W.Frag) (r : List V → Hp → VK → Prop) (ds : List D) (rs : Rs) : Prop := ∀ H Hs, Ext Hs H → ∀ xs Q, Reps1 K H Hs xs ds → (∀ z H', RsOK K Hs H z H' rs → Q z H') → r xs H Q
def views (Γ : List Sl) : List Rv → List D → Prop
  | [], [] => True
  | r :: rs, d :: ds => view Γ r = some d ∧ views Γ rs ds
  | _, _ => False
theorem As.views (A : As K Z M Γ σ H) : ∀ {vs : List V} {rs : List Rv} {ds : List D}, RvsRel K Z M Γ σ H vs rs → views Γ rs ds → Reps1 K H (Hd (Un M Z.B) H) vs ds
  | _, _, [], .nil, _ => .nil
  | _, _, _ :: _, .nil, h => h.elim
  | _, _, [], .cons _ _, h => h.elim
  | _, _, _ :: _, .cons a b, ⟨h1, h2⟩ => .cons (A.view a h1) (A.views b h2)

theorem op2_run {f : Value → Value → Sem Value} {rr : R2} (A : As K Z M Γ σ H) {x y : V} {r1 r2 : Rv} (h1 : RvRel K Z M Γ σ H x r1) (h2 : RvRel K Z M Γ σ H y r2) {d1 d2 : D} {rs : Rs}
    (v1 : view Γ r1 = some d1) (v2 : view Γ r2 = some d2) (ho : Op2 K rr d1 d2 rs) (hn : N rs.rv Γ) {Q : VK} (k : ∀ r v Γ' M' H', N r Γ' → As K Z M' Γ' σ H' → Tr Z M H M' H' → RvRel K Z M' Γ' σ H' v r → Q v H') : rr x y H Q :=
  ho H _ A.ext x y Q (A.view h1 v1) (A.view h2 v2) fun z H' q => by
    obtain ⟨M', A', T, rz⟩ := A.rs q
    exact k _ z _ M' H' hn A' T rz
/-- e1 op e2, by values -/
theorem pe2 {f : TE → TE → TE} {rr : R2} {eo : Expr} (hp : ∀ ta tb, PE X a ta → PE X b tb → PE X eo (tOp rr ta tb))
    (h : EW X Z Γ a fun r1 Γ1 => Fz r1 Γ1 fun r1 Γ1 => EW X Z Γ1 b fun r2 Γ2 => ∃ d1 d2 rs, view Γ2 r1 = some d1 ∧ view Γ2 r2 = some d2 ∧ Op2 X.K rr d1 d2 rs ∧ N rs.rv Γ2) : EW X Z Γ eo N := by
  let N2 : Rv → Rv → List Sl → Prop := fun r1 r2 Γ2 => ∃ d1 d2 rs, view Γ2 r1 = some d1 ∧ view Γ2 r2 = some d2 ∧ Op2 X.K rr d1 d2 rs ∧ N rs.rv Γ2
  have hb : PE X b (fun σ H Q => ∃ i : Rv × List Sl, EW X Z i.2 b (N2 i.1) ∧ tOf X.K Z i.2 (N2 i.1) σ H Q) := pe_ex fun i hi => hi
  refine pe_imp (hp _ _ h hb) fun σ H Q ⟨M, A, k⟩ => ?_
  refine ⟨M, A, fun r1 v1 Γ1 M1 H1 n1 A1 T1 q1 => ?_⟩
  obtain ⟨M2, r1', A2, T2, q2, nn, hb'⟩ := A1.fz' q1 n1
  refine ⟨(r1', Γ1), hb', M2, A2, fun r2 v2 Γ2 M3 H3 n3 A3 T3 q3 => ?_⟩
  obtain ⟨d1, d2, rs, w1, w2, ho, hn⟩ := n3
  exact op2_run (f := fun _ _ => pure .none) A3 (q2.tr T3 nn) q3 w1 w2 ho hn fun r v Γ' M' H' n A' T' q => k r v Γ' M' H' n A' (((T1.trans T2).trans T3).trans T') q
theorem ew_op {op : Operator} {rr : R2} (ho : OpR X (binaryOp op) rr)
    (h : EW X Z Γ a fun r1 Γ1 => Fz r1 Γ1 fun r1 Γ1 => EW X Z Γ1 b fun r2 Γ2 => ∃ d1 d2 rs, view Γ2 r1 = some d1 ∧ view Γ2 r2 = some d2 ∧ Op2 X.K rr d1 d2 rs ∧ N rs.rv Γ2) : EW X Z Γ (.BinOp a op b pos) N :=
  pe2 (f := fun t _ => t) (fun _ _ ha hb => pe_op ho ha hb) h
theorem ew_cmp {op : CmpOp} {rr : R2} (ho : OpR X (compareOp op) rr)
    (h : EW X Z Γ a fun r1 Γ1 => Fz r1 Γ1 fun r1 Γ1 => EW X Z Γ1 b fun r2 Γ2 => ∃ d1 d2 rs, view Γ2 r1 = some d1 ∧ view Γ2 r2 = some d2 ∧ Op2 X.K rr d1 d2 rs ∧ N rs.rv Γ2) (hm : behindInMarks op b = false := by first | exact nomark _ | rfl) : EW X Z Γ (.Compare a [op] [b] pos) N :=
  pe2 (f := fun t _ => t) (fun _ _ ha hb => pe_cmpR ho ha hb hm) h
theorem ew_ix {rr : R2} (hr : IxR X rr)
    (h : EW X Z Γ a fun r1 Γ1 => Fz r1 Γ1 fun r1 Γ1 => EW X Z Γ1 b fun r2 Γ2 => ∃ d1 d2 rs, view Γ2 r1 = some d1 ∧ view Γ2 r2 = some d2 ∧ Op2 X.K rr d1 d2 rs ∧ N rs.rv Γ2) (hs : PlainIx b := by exact fun _ _ => rfl) : EW X Z Γ (.Subscript a b pos) N :=
  pe2 (f := fun t _ => t) (fun _ _ ha hb => pe_ix hr ha hb hs) h
theorem ew_un {op : UnaryOp} {rr : V → Hp → VK → Prop} (ho : UnR X (unaryOp op) rr)
    (h : EW X Z Γ a fun r1 Γ1 => ∃ d1 rs, view Γ1 r1 = some d1 ∧ Op1 X.K rr d1 rs ∧ N rs.rv Γ1) : EW X Z Γ (.UnaryOp op a pos) N := by
  refine pe_imp (pe_un ho h) fun σ H Q ⟨M, A, k⟩ => ?_
  refine ⟨M, A, fun r1 v1 Γ1 M1 H1 n1 A1 T1 q1 => ?_⟩
  obtain ⟨d1, rs, w1, ho, hn⟩ := n1
  exact ho H1 _ A1.ext v1 Q (A1.view q1 w1) fun z H' q => by
    obtain ⟨M', A', T, rz⟩ := A1.rs q
    exact k _ z _ M' H' hn A' (T1.trans T) rz
/-! arguments -/
variable {NA : List Rv → List Sl → Prop} {es : List Expr}
theorem aw_nil (h : NA [] Γ) : AW X Z Γ [] NA := pa_imp pa_nil fun σ H Q ⟨M, A, k⟩ => k _ _ Γ M H h (fun r hr => nomatch hr) A (Tr.refl _ _ _) .nil
theorem RvsRel.tr {M' : Addr → Prop} {H' : Hp} {Γ' : List Sl} (T : Tr Z M H M' H') : ∀ {vs : List V} {rs : List Rv}, RvsRel K Z M Γ σ H vs rs → (∀ r ∈ rs, ∀ d, r ≠ .new d) → RvsRel K Z M' Γ' σ H' vs rs
  | _, _, .nil, _ => .nil
  | _, _, .cons a b, n => .cons (a.tr T (n _ List.mem_cons_self)) (RvsRel.tr T b fun r hr => n r (List.mem_cons_of_mem _ hr))
theorem aw_cons (h : EW X Z Γ a fun r Γ1 => Fz r Γ1 fun r Γ1 => AW X Z Γ1 es fun rs Γ2 => NA (r :: rs) Γ2) (hs : starEach (a :: es) X.env = (false, eval a X.env) :: starEach es X.env := by rfl) : AW X Z Γ (a :: es) NA := by
  have hb : PA X es (fun σ H Q => ∃ i : Rv × List Sl, AW X Z i.2 es (fun rs Γ2 => NA (i.1 :: rs) Γ2) ∧ taOf X.K Z i.2 (fun rs Γ2 => NA (i.1 :: rs) Γ2) σ H Q) := pa_ex fun i hi => hi
  refine pa_imp (pa_cons h hb hs) fun σ H Q ⟨M, A, k⟩ => ?_
  refine ⟨M, A, fun r1 v1 Γ1 M1 H1 n1 A1 T1 q1 => ?_⟩
  obtain ⟨M2, r1', A2, T2, q2, nn, hb'⟩ := A1.fz' q1 n1
  refine ⟨(r1', Γ1), hb', M2, A2, fun rs vs Γ2 M3 H3 n3 nn3 A3 T3 q3 => k _ _ Γ2 M3 H3 n3 (fun r hr => ?_) A3 ((T1.trans T2).trans T3) (.cons (q2.tr T3 nn) q3)⟩
  rcases List.mem_cons.mp hr with e | hr
  · subst e; exact nn
  · exact nn3 r hr
/-- as data, all of them -/
def Ims : List Rv → List Sl → (List D → List Sl → Prop) → Prop
  | [], Γ, k => k [] Γ
  | r :: rs, Γ, k => Im r Γ fun d Γ1 => Ims rs Γ1 fun ds Γ2 => k (d :: ds) Γ2
theorem Im.imp {k k' : D → List Sl → Prop} (h : Im r Γ k) (i : ∀ d Γ', k d Γ' → k' d Γ') : Im r Γ k' := by
  cases r with
  | new d => exact i _ _ h
  | d d => exact i _ _ h
  | bo d => exact h.elim
  | va u => exact h.elim
  | own j =>
    cases hs : Γ[j]? with
    | none => simp only [Im, hs] at h
    | some s => cases s <;> simp only [Im, hs] at h ⊢ <;> exact i _ _ h
theorem As.ims {σ : St} {H : Hp} : ∀ {rs : List Rv} {vs : List V} {Γ : List Sl} {M : Addr → Prop} (_ : As K Z M Γ σ H) (_ : RvsRel K Z M Γ σ H vs rs) (_ : ∀ r ∈ rs, ∀ d, r ≠ Rv.new d) {k : List D → List Sl → Prop} (_ : Ims rs Γ k),
    ∃ M' ds Γ', As K Z M' Γ' σ H ∧ Tr Z M H M' H ∧ Reps K (Hd (Un M' Z.B) H) vs ds ∧ k ds Γ'
  | _, _, Γ, M, A, .nil, _, _, hk => ⟨M, [], Γ, A, Tr.refl _ _ _, .nil, hk⟩
  | _, _, _, _, A, .cons a b, n, k, hk => by
    obtain ⟨M1, d, Γ1, A1, T1, q1, hk1⟩ := A.im a hk
    have b1 := RvsRel.tr (Γ' := Γ1) T1 b fun r hr => n r (List.mem_cons_of_mem _ hr)
    obtain ⟨M2, ds, Γ2, A2, T2, q2, hk2⟩ := As.ims A1 b1 (fun r hr => n r (List.mem_cons_of_mem _ hr)) hk1
    exact ⟨M2, d :: ds, Γ2, A2, T1.trans T2, .cons (Rep.mono T2.s q1) q2, hk2⟩
end
end Lw

namespace Lw
open PySem L2
section
variable {X : Cx} {Z : Zc} {Γ : List Sl} {N : Rv → List Sl → Prop} {a b c e : Expr} {es : List Expr} {pos : Pos} {K : PySem.W.Frag} {M : Addr → Prop} {σ : St} {H : Hp}
/-! displays -/
theorem ew_tup {x1} (h : AW X Z Γ es fun rs Γ1 => Ims rs Γ1 fun ds Γ2 => ds.length ≤ 100000 ∧ N (.d (.tup ds)) Γ2) : EW X Z Γ (.Tuple es x1 pos) N := by
  refine pe_imp (pe_tup h) fun σ H Q ⟨M, A, k⟩ => ?_
  refine ⟨M, A, fun rs vs Γ1 M1 H1 n1 nn A1 T1 q1 => ?_⟩
  obtain ⟨M2, ds, Γ2, A2, T2, q2, hl, hn⟩ := A1.ims q1 nn n1
  refine ⟨by rw [q2.length, sizeLine_eq]; omega, fun p hp => ?_⟩
  obtain ⟨M3, A3, T3, rz⟩ := A2.rs (z := .ref p) (rs := .sc (.tup ds)) (.inr ⟨p, .tup vs, rfl, hp, rfl, .tup q2⟩)
  exact k _ _ _ M3 _ hn A3 ((T1.trans T2).trans T3) rz
theorem ew_lst (h : AW X Z Γ es fun rs Γ1 => Ims rs Γ1 fun ds Γ2 => ds.length ≤ 100000 ∧ N (.new (.lst ds)) Γ2) : EW X Z Γ (.List es pos) N := by
  refine pe_imp (pe_lst h) fun σ H Q ⟨M, A, k⟩ => ?_
  refine ⟨M, A, fun rs vs Γ1 M1 H1 n1 nn A1 T1 q1 => ?_⟩
  obtain ⟨M2, ds, Γ2, A2, T2, q2, hl, hn⟩ := A1.ims q1 nn n1
  refine ⟨by rw [q2.length, sizeLine_eq]; omega, fun p hp => ?_⟩
  obtain ⟨M3, A3, T3, rz⟩ := A2.rs (z := .ref p) (rs := .nw (.lst ds)) ⟨p, .lst vs, rfl, hp, rfl, .lst q2⟩
  exact k _ _ _ M3 _ hn A3 ((T1.trans T2).trans T3) rz
/-! built-in calls -/
abbrev CB (X : Cx) (r : List V → Hp → VK → Prop) (N : Rv → List Sl → Prop) (rs : List Rv) (Γ1 : List Sl) : Prop := ∃ ds rsl, views Γ1 rs ds ∧ OpN X.K r ds rsl ∧ N rsl.rv Γ1
theorem ew_callB {id : String} {x : Str} {p : Pos} {r : List V → Hp → VK → Prop} (hc : CallR X (.builtin id) r) (hg : Gl X x) (hm : X.mg x = none) (hv : bootBuiltins x = some (.builtin id)) (h : AW X Z Γ (e :: es) (CB X r N))
    (hn : x ≠ "__name__" := by decide) (hdb : (x == ("__debug__" : Str)) = false := by decide) (he : starEach (e :: es) X.env = (false, eval e X.env) :: starEach es X.env := by rfl) (hpl : (backTo pos (starEach es X.env)).any (·.1) = false := by rfl) :
    EW X Z Γ (.Call (.Name x p) (e :: es) [] pos) N := by
  refine pe_imp (pe_callB hc hg hm hv h hn hdb he hpl) fun σ H Q ⟨M, A, k⟩ => ?_
  refine ⟨M, A, fun rs vs Γ1 M1 H1 ⟨ds, rsl, w, ho, hn⟩ nn A1 T1 q1 => ?_⟩
  refine ho H1 _ A1.ext vs Q (A1.views q1 w) fun z H' q => ?_
  obtain ⟨M2, A2, T2, rz⟩ := A1.rs q
  exact k _ z _ M2 H' hn A2 (T1.trans T2) rz
theorem ew_callTy {T : String} {x : Str} {p : Pos} {r : List V → Hp → VK → Prop} (hc : CallR X (.type T) r) (hg : Gl X x) (hm : X.mg x = none) (hv : bootBuiltins x = some (.type T)) (h : AW X Z Γ (e :: es) (CB X r N))
    (hn : x ≠ "__name__" := by decide) (hdb : (x == ("__debug__" : Str)) = false := by decide) (he : starEach (e :: es) X.env = (false, eval e X.env) :: starEach es X.env := by rfl) (hpl : (backTo pos (starEach es X.env)).any (·.1) = false := by rfl) :
    EW X Z Γ (.Call (.Name x p) (e :: es) [] pos) N := by
  refine pe_imp (pe_callTy hc hg hm hv h hn hdb he hpl) fun σ H Q ⟨M, A, k⟩ => ?_
  refine ⟨M, A, fun rs vs Γ1 M1 H1 ⟨ds, rsl, w, ho, hn⟩ nn A1 T1 q1 => ?_⟩
  refine ho H1 _ A1.ext vs Q (A1.views q1 w) fun z H' q => ?_
  obtain ⟨M2, A2, T2, rz⟩ := A1.rs q
  exact k _ z _ M2 H' hn A2 (T1.trans T2) rz
/-! tests -/
variable {NB : Bool → List Sl → Prop} {rest : List Expr}
def TruD : D → Option Bool
  | .non => some false
  | .bl b => some b
  | .int i => some (i != 0)
  | .lst xs => some (!xs.isEmpty)
  | .tup xs => some (!xs.isEmpty)
  | _ => none
theorem isEmpty_reps {vs : List V} {ds : List D} (r : Reps K H vs ds) : vs.isEmpty = ds.isEmpty := by cases r <;> rfl
theorem TruD.ok {Hs : Hp} {v : V} {d : D} {b : Bool} (x : Ext Hs H) (h : Rep1 K H Hs v d) (ht : TruD d = some b) : TruV K v H b := by
  cases d with
  | non => cases ht; rw [h.non_inv]; rfl
  | bl b => cases ht; rw [h.bl_inv]; rfl
  | int i => cases ht; rw [h.int_inv]; rfl
  | lst xs =>
    cases ht
    obtain ⟨a, vs, e, s, r⟩ := h.lst_inv x
    subst e
    exact .inl ⟨vs, SqL.of s, by rw [isEmpty_reps r]⟩
  | tup xs =>
    cases ht
    obtain ⟨a, vs, e, s, r⟩ := h.tup_inv x
    subst e
    exact .inr (.inl ⟨vs, s, by rw [isEmpty_reps r]⟩)
  | str _ => cases ht
  | obj _ _ => cases ht
  | scr _ => cases ht
  | ty _ => cases ht
  | cls _ => cases ht
theorem tw_val (h : EW X Z Γ e fun r Γ1 => ∃ d b, view Γ1 r = some d ∧ TruD d = some b ∧ NB b Γ1) (he : ∀ whole, isTrue e X.env whole = (do let v ← whole; standAt e.pos; holding [v] (truthy v)) := by intro _; rfl) : TW X Z Γ e NB := by
  refine pt_imp (pt_truth h he) fun σ H Q ⟨M, A, k⟩ => ?_
  exact ⟨M, A, fun r v Γ1 M1 H1 ⟨d, b, w, ht, n⟩ A1 T1 q1 => ⟨b, TruD.ok A1.ext (A1.view q1 w) ht, k _ _ _ _ n A1 T1⟩⟩
theorem tw_cmp {op : CmpOp} {rr : R2} (ho : OpR X (compareOp op) rr)
    (h : EW X Z Γ a fun r1 Γ1 => Fz r1 Γ1 fun r1 Γ1 => EW X Z Γ1 b fun r2 Γ2 => ∃ d1 d2 c, view Γ2 r1 = some d1 ∧ view Γ2 r2 = some d2 ∧ Op2 X.K rr d1 d2 (.sc (.bl c)) ∧ NB c Γ2) (hm : behindInMarks op b = false := by first | exact nomark _ | rfl) : TW X Z Γ (.Compare a [op] [b] pos) NB := by
  let N2 : Rv → Rv → List Sl → Prop := fun r1 r2 Γ2 => ∃ d1 d2 c, view Γ2 r1 = some d1 ∧ view Γ2 r2 = some d2 ∧ Op2 X.K rr d1 d2 (.sc (.bl c)) ∧ NB c Γ2
  have hb : PE X b (fun σ H Q => ∃ i : Rv × List Sl, EW X Z i.2 b (N2 i.1) ∧ tOf X.K Z i.2 (N2 i.1) σ H Q) := pe_ex fun i hi => hi
  refine pt_imp (pt_cmpR ho h hb hm) fun σ H Q ⟨M, A, k⟩ => ?_
  refine ⟨M, A, fun r1 v1 Γ1 M1 H1 n1 A1 T1 q1 => ?_⟩
  obtain ⟨M2, r1', A2, T2, q2, nn, hb'⟩ := A1.fz' q1 n1
  refine ⟨(r1', Γ1), hb', M2, A2, fun r2 v2 Γ2 M3 H3 n3 A3 T3 q3 => ?_⟩
  obtain ⟨d1, d2, c, w1, w2, ho, hn⟩ := n3
  refine op2_run (N := fun r Γ' => r = .d (.bl c) ∧ NB c Γ') (f := fun _ _ => pure .none) A3 (q2.tr T3 nn) q3 w1 w2 ho ⟨rfl, hn⟩ fun r v Γ' M' H' n A' T' q => ?_
  obtain ⟨e, n⟩ := n
  subst e
  exact ⟨c, Rep.bl_inv q, k _ _ _ _ n A' (((T1.trans T2).trans T3).trans T')⟩
theorem tw_pw (h : WW X Z Γ e NB) : TW X Z Γ e NB := h.pt
theorem ww_and1 (h : TW X Z Γ a NB) : WW X Z Γ (.BoolOp .And [a] pos) NB := pw_and1 h
theorem ww_or1 (h : TW X Z Γ a NB) : WW X Z Γ (.BoolOp .Or [a] pos) NB := pw_or1 h
theorem ww_and (h : TW X Z Γ a fun c Γ1 => (c = true → WW X Z Γ1 (.BoolOp .And (b :: rest) pos) NB) ∧ (c = false → NB false Γ1)) : WW X Z Γ (.BoolOp .And (a :: b :: rest) pos) NB := by
  have hb : PW X (.BoolOp .And (b :: rest) pos) (fun σ H Q => ∃ i : List Sl, WW X Z i (.BoolOp .And (b :: rest) pos) NB ∧ ttOf X.K Z i NB σ H Q) := pw_ex fun i hi => hi
  refine pw_imp (pw_and h hb) fun σ H Q ⟨M, A, k⟩ => ?_
  refine ⟨M, A, fun c Γ1 M1 H1 ⟨n1, n2⟩ A1 T1 => ?_⟩
  cases c with
  | true => exact ⟨Γ1, n1 rfl, M1, A1, fun b Γ2 M2 H2 n A2 T2 => k _ _ _ _ n A2 (T1.trans T2)⟩
  | false => exact k _ _ _ _ (n2 rfl) A1 T1
theorem ww_or (h : TW X Z Γ a fun c Γ1 => (c = false → WW X Z Γ1 (.BoolOp .Or (b :: rest) pos) NB) ∧ (c = true → NB true Γ1)) : WW X Z Γ (.BoolOp .Or (a :: b :: rest) pos) NB := by
  have hb : PW X (.BoolOp .Or (b :: rest) pos) (fun σ H Q => ∃ i : List Sl, WW X Z i (.BoolOp .Or (b :: rest) pos) NB ∧ ttOf X.K Z i NB σ H Q) := pw_ex fun i hi => hi
  refine pw_imp (pw_or h hb) fun σ H Q ⟨M, A, k⟩ => ?_
  refine ⟨M, A, fun c Γ1 M1 H1 ⟨n1, n2⟩ A1 T1 => ?_⟩
  cases c with
  | false => exact ⟨Γ1, n1 rfl, M1, A1, fun b Γ2 M2 H2 n A2 T2 => k _ _ _ _ n A2 (T1.trans T2)⟩
  | true => exact k _ _ _ _ (n2 rfl) A1 T1
theorem tw_not (h : TW X Z Γ a fun c Γ1 => NB (!c) Γ1) : TW X Z Γ (.UnaryOp .Not a pos) NB := by
  refine pt_imp (pt_not h) fun σ H Q ⟨M, A, k⟩ => ?_
  exact ⟨M, A, fun c Γ1 M1 H1 n A1 T1 => k _ _ _ _ n A1 T1⟩
/-! and, or, not as values -/
theorem ew_one {op} (h : EW X Z Γ a N) : EW X Z Γ (.BoolOp op [a] pos) N := pe_one h
theorem ew_and (h : EW X Z Γ a fun r Γ1 => ∃ c, view Γ1 r = some (.bl c) ∧ (c = true → EW X Z Γ1 (.BoolOp .And (b :: rest) pos) N) ∧ (c = false → N (.d (.bl false)) Γ1)) : EW X Z Γ (.BoolOp .And (a :: b :: rest) pos) N := by
  have hb : PE X (.BoolOp .And (b :: rest) pos) (fun σ H Q => ∃ i : List Sl, EW X Z i (.BoolOp .And (b :: rest) pos) N ∧ tOf X.K Z i N σ H Q) := pe_ex fun i hi => hi
  refine pe_imp (pe_and h hb) fun σ H Q ⟨M, A, k⟩ => ?_
  refine ⟨M, A, fun r v Γ1 M1 H1 ⟨c, w, n1, n2⟩ A1 T1 q1 => ⟨c, Rep1.bl_inv (A1.view q1 w), ?_⟩⟩
  cases c with
  | true => exact ⟨Γ1, n1 rfl, M1, A1, fun r v Γ2 M2 H2 n A2 T2 q2 => k _ _ _ _ _ n A2 (T1.trans T2) q2⟩
  | false => exact k _ _ _ _ _ (n2 rfl) A1 T1 (Rep.bl false)
theorem ew_or (h : EW X Z Γ a fun r Γ1 => ∃ c, view Γ1 r = some (.bl c) ∧ (c = false → EW X Z Γ1 (.BoolOp .Or (b :: rest) pos) N) ∧ (c = true → N (.d (.bl true)) Γ1)) : EW X Z Γ (.BoolOp .Or (a :: b :: rest) pos) N := by
  have hb : PE X (.BoolOp .Or (b :: rest) pos) (fun σ H Q => ∃ i : List Sl, EW X Z i (.BoolOp .Or (b :: rest) pos) N ∧ tOf X.K Z i N σ H Q) := pe_ex fun i hi => hi
  refine pe_imp (pe_or h hb) fun σ H Q ⟨M, A, k⟩ => ?_
  refine ⟨M, A, fun r v Γ1 M1 H1 ⟨c, w, n1, n2⟩ A1 T1 q1 => ⟨c, Rep1.bl_inv (A1.view q1 w), ?_⟩⟩
  cases c with
  | false => exact ⟨Γ1, n1 rfl, M1, A1, fun r v Γ2 M2 H2 n A2 T2 q2 => k _ _ _ _ _ n A2 (T1.trans T2) q2⟩
  | true => exact k _ _ _ _ _ (n2 rfl) A1 T1 (Rep.bl true)
theorem ew_not (h : EW X Z Γ a fun r Γ1 => ∃ c, view Γ1 r = some (.bl c) ∧ N (.d (.bl (!c))) Γ1) : EW X Z Γ (.UnaryOp .Not a pos) N := by
  refine pe_imp (pe_not h) fun σ H Q ⟨M, A, k⟩ => ?_
  exact ⟨M, A, fun r v Γ1 M1 H1 ⟨c, w, n⟩ A1 T1 q1 => ⟨c, Rep1.bl_inv (A1.view q1 w), k _ _ _ _ _ n A1 T1 (Rep.bl _)⟩⟩
theorem ew_if (h : TW X Z Γ c fun t Γ1 => (t = true → EW X Z Γ1 a N) ∧ (t = false → EW X Z Γ1 b N)) : EW X Z Γ (.IfExp c a b pos) N := by
  have ha : PE X a (fun σ H Q => ∃ i : List Sl, EW X Z i a N ∧ tOf X.K Z i N σ H Q) := pe_ex fun i hi => hi
  have hb : PE X b (fun σ H Q => ∃ i : List Sl, EW X Z i b N ∧ tOf X.K Z i N σ H Q) := pe_ex fun i hi => hi
  refine pe_imp (pe_ifExp h ha hb) fun σ H Q ⟨M, A, k⟩ => ?_
  refine ⟨M, A, fun t Γ1 M1 H1 ⟨n1, n2⟩ A1 T1 => ?_⟩
  cases t with
  | true => exact ⟨Γ1, n1 rfl, M1, A1, fun r v Γ2 M2 H2 n A2 T2 q2 => k _ _ _ _ _ n A2 (T1.trans T2) q2⟩
  | false => exact ⟨Γ1, n2 rfl, M1, A1, fun r v Γ2 M2 H2 n A2 T2 q2 => k _ _ _ _ _ n A2 (T1.trans T2) q2⟩
/-! chains a < b < c -/
theorem op2_bl {rr : R2} {d1 d2 : D} {c : Bool} (A : As K Z M Γ σ H) (ho : Op2 K rr d1 d2 (.sc (.bl c))) {x y : V} {Q : VK} (h1 : Rep1 K H (Hd (Un M Z.B) H) x d1) (h2 : Rep1 K H (Hd (Un M Z.B) H) y d2) (q : Q (.bl c) H) : rr x y H Q :=
  ho H _ A.ext x y Q h1 h2 fun z H' w => by
    rcases w with ⟨e, r⟩ | ⟨p, o, e, _, _, r⟩
    · subst e; rw [r.bl_inv]; exact q
    · cases r
def Chn (X : Cx) (Z : Zc) (rr rr' : R2) (c : Expr) (NB : Bool → List Sl → Prop) (r1 r2 : Rv) (Γ2 : List Sl) : Prop :=
  ∃ d1 d2 b1, view Γ2 r1 = some d1 ∧ view Γ2 r2 = some d2 ∧ Op2 X.K rr d1 d2 (.sc (.bl b1)) ∧ (b1 = false → NB false Γ2) ∧ (b1 = true → EW X Z Γ2 c fun r3 Γ3 => ∃ d2' d3 b2, view Γ3 r2 = some d2' ∧ view Γ3 r3 = some d3 ∧ Op2 X.K rr' d2' d3 (.sc (.bl b2)) ∧ NB b2 Γ3)
theorem tc_chain {op op' : CmpOp} {rr rr' : R2} (ho : OpR X (compareOp op) rr) (ho' : OpR X (compareOp op') rr')
    (h : EW X Z Γ a fun r1 Γ1 => Fz r1 Γ1 fun r1 Γ1 => EW X Z Γ1 b fun r2 Γ2 => Fz r2 Γ2 fun r2 Γ2 => Chn X Z rr rr' c NB r1 r2 Γ2) :
    ∃ ta tb tc : TE, PE X a ta ∧ PE X b tb ∧ PE X c tc ∧ ∀ σ H (Q : VK), (∃ M, As X.K Z M Γ σ H ∧ ∀ b Γ' M' H', NB b Γ' → As X.K Z M' Γ' σ H' → Tr Z M H M' H' → Q (.bl b) H') → tChain rr rr' ta tb tc σ H Q := by
  let N3 : Rv → Rv → List Sl → Prop := fun r2 r3 Γ3 => ∃ d2' d3 b2, view Γ3 r2 = some d2' ∧ view Γ3 r3 = some d3 ∧ Op2 X.K rr' d2' d3 (.sc (.bl b2)) ∧ NB b2 Γ3
  let N2 : Rv → Rv → List Sl → Prop := fun r1 r2 Γ2 => Fz r2 Γ2 fun r2 Γ2 => Chn X Z rr rr' c NB r1 r2 Γ2
  have hb : PE X b (fun σ H Q => ∃ i : Rv × List Sl, EW X Z i.2 b (N2 i.1) ∧ tOf X.K Z i.2 (N2 i.1) σ H Q) := pe_ex fun i hi => hi
  have hc : PE X c (fun σ H Q => ∃ i : Rv × List Sl, EW X Z i.2 c (N3 i.1) ∧ tOf X.K Z i.2 (N3 i.1) σ H Q) := pe_ex fun i hi => hi
  refine ⟨_, _, _, h, hb, hc, fun σ H Q ⟨M, A, k⟩ => ?_⟩
  refine ⟨M, A, fun r1 v1 Γ1 M1 H1 n1 A1 T1 q1 => ?_⟩
  obtain ⟨M2, r1', A2, T2, q2, nn, hb'⟩ := A1.fz' q1 n1
  refine ⟨(r1', Γ1), hb', M2, A2, fun r2 v2 Γ2 M3 H3 n3 A3 T3 q3 => ?_⟩
  obtain ⟨M4, r2', A4, T4, q4, nn2, d1, d2, b1, w1, w2, o1, k1, k2⟩ := A3.fz' q3 n3
  refine op2_bl A4 o1 (A4.view (RvRel.tr (Γ' := Γ2) T4 (RvRel.tr (Γ' := Γ2) T3 q2 nn) nn) w1) (A4.view q4 w2) ⟨b1, rfl, ?_⟩
  cases b1 with
  | false => exact k _ _ _ _ (k1 rfl) A4 (((T1.trans T2).trans T3).trans T4)
  | true =>
    refine ⟨(r2', Γ2), k2 rfl, M4, A4, fun r3 v3 Γ3 M5 H5 n5 A5 T5 q5 => ?_⟩
    obtain ⟨d2', d3, b2, w3, w4, o2, n⟩ := n5
    exact op2_bl A5 o2 (A5.view (q4.tr T5 nn2) w3) (A5.view q5 w4) (k _ _ _ _ n A5 ((((T1.trans T2).trans T3).trans T4).trans T5))
theorem tw_chain {op op' : CmpOp} {rr rr' : R2} (ho : OpR X (compareOp op) rr) (ho' : OpR X (compareOp op') rr')
    (h : EW X Z Γ a fun r1 Γ1 => Fz r1 Γ1 fun r1 Γ1 => EW X Z Γ1 b fun r2 Γ2 => Fz r2 Γ2 fun r2 Γ2 => Chn X Z rr rr' c NB r1 r2 Γ2) (hm : lastMarks [op, op'] [b, c] = false := by rfl) :
    TW X Z Γ (.Compare a [op, op'] [b, c] pos) NB := by
  obtain ⟨ta, tb, tc, ha, hb, hc, i⟩ := tc_chain ho ho' h
  exact pt_imp (pt_chain ho ho' ha hb hc hm) fun σ H Q ⟨M, A, k⟩ => i σ H _ ⟨M, A, fun b Γ' M' H' n A' T' => ⟨b, rfl, k _ _ _ _ n A' T'⟩⟩
theorem ew_chain {op op' : CmpOp} {rr rr' : R2} (ho : OpR X (compareOp op) rr) (ho' : OpR X (compareOp op') rr')
    (h : EW X Z Γ a fun r1 Γ1 => Fz r1 Γ1 fun r1 Γ1 => EW X Z Γ1 b fun r2 Γ2 => Fz r2 Γ2 fun r2 Γ2 => Chn X Z rr rr' c (fun b Γ' => N (.d (.bl b)) Γ') r1 r2 Γ2) (hm : lastMarks [op, op'] [b, c] = false := by rfl) :
    EW X Z Γ (.Compare a [op, op'] [b, c] pos) N := by
  obtain ⟨ta, tb, tc, ha, hb, hc, i⟩ := tc_chain ho ho' h
  refine pe_imp (pe_chain ho ho' ha hb hc hm) fun σ H Q ⟨M, A, k⟩ => ?_
  exact i σ H _ ⟨M, A, fun b Γ' M' H' n A' T' => k _ _ _ _ _ n A' T' (Rep.bl b)⟩
/-! ### statements -/
variable {P : Po} {st : Stmt} {sts : List Stmt}
theorem ss_nil (h : P.nx Γ) : SS X Z Γ [] P := pss_imp pss_nil fun D σ H ⟨M, A, k1, _⟩ => k1 _ _ _ _ h A (Tr.refl _ _ _)
theorem ss_cons (h : SW X Z Γ st ⟨fun Γ1 => SS X Z Γ1 sts P, P.rt, P.bk, P.ct⟩) : SS X Z Γ (st :: sts) P := by
  have hb : PSs X sts (fun D σ H => ∃ i : List Sl, SS X Z i sts P ∧ tsOf X.K Z i P D σ H) := pss_ex fun i hi => hi
  refine pss_imp (pss_cons h hb) fun D σ H ⟨M, A, k⟩ => ?_
  exact ⟨M, A, fun Γ' M' σ' H' n A' T' => ⟨Γ', n, M', A', ends_tr T' k⟩, k.2⟩
/-- the slot's own list is given away for good -/
theorem ss_frz {i : Nat} {d : D} (hs : Γ[i]? = some (.ow d)) (h : SS X Z (Γ.set i (.im d)) sts P) : SS X Z Γ sts P := by
  refine pss_imp h fun D σ H ⟨M, A, k⟩ => ?_
  have hl : i < σ.length := by
    rw [A.len]
    rcases Nat.lt_or_ge i Γ.length with q | q
    · exact q
    · rw [List.getElem?_eq_none (by simpa using q)] at hs; cases hs
  have hσ := List.getElem?_eq_getElem hl
  obtain ⟨a, o, e, _⟩ := A.rel i _ _ hs hσ
  rw [e] at hσ
  obtain ⟨M', d', Γ', A', T, _, e1, e2⟩ := A.im (r := .own i) (v := .ref a) (k := fun d' Γ' => d' = d ∧ Γ' = Γ.set i (.im d)) hσ (by simp [Im, hs])
  subst e2
  exact ⟨M', A', ends_tr T k⟩
/-- a value goes into slot i -/
def Asg (r : Rv) (i : Nat) (Γ : List Sl) (k : List Sl → Prop) : Prop := match r with
  | .d d => k (Γ.set i (.im d))
  | .bo d => k (Γ.set i (.bo d))
  | .new d => k (Γ.set i (.ow d))
  | .va v => k (Γ.set i (.va v))
  | .own j => match Γ[j]? with
    | some (.ow d) => k ((Γ.set j (.im d)).set i (.im d))
    | _ => False
theorem As.asg (A : As K Z M Γ σ H) {v : V} {r : Rv} (h : RvRel K Z M Γ σ H v r) {i : Nat} {k : List Sl → Prop} (hk : Asg r i Γ k) : ∃ M' Γ', As K Z M' Γ' (σ.set i (some v)) H ∧ Tr Z M H M' H ∧ k Γ' := by
  cases r with
  | d d => exact ⟨M, _, A.put (s := .im d) ⟨v, rfl, h⟩ (fun j a q => nomatch q), Tr.refl _ _ _, hk⟩
  | bo d => exact ⟨M, _, A.put (s := .bo d) ⟨v, rfl, h⟩ (fun j a q => nomatch q), Tr.refl _ _ _, hk⟩
  | va u => exact ⟨M, _, A.put (s := .va u) (congrArg some h) (fun j a q => nomatch q), Tr.refl _ _ _, hk⟩
  | new d =>
    obtain ⟨a, o, e, ma, z, ho, rr, n⟩ := h
    subst e
    exact ⟨M, _, A.put (s := .ow d) ⟨a, o, rfl, ma, z, ho, rr⟩ (fun j b _ e q => by cases e; exact absurd q (n j)), Tr.refl _ _ _, hk⟩
  | own j =>
    have hk' : Im (.own j) Γ fun d Γ1 => k (Γ1.set i (.im d)) := by
      cases hs : Γ[j]? with
      | none => simp only [Asg, hs] at hk
      | some s => cases s <;> simp only [Asg, Im, hs] at hk ⊢ <;> exact hk
    obtain ⟨M1, d, Γ1, A1, T1, q1, n⟩ := A.im h hk'
    exact ⟨M1, _, A1.put (s := .im d) ⟨v, rfl, q1⟩ (fun j a q => nomatch q), T1, n⟩
theorem sw_set {i : Nat} {x : Str} {p : Pos} (hN : X.N.Nodup) (hi : X.N[i]? = some x) (hx : Loc X.env.scope x) (h : EW X Z Γ e fun r Γ1 => Asg r i Γ1 P.nx)
    (hs : swapsWith e (some (.Name x p)) pos.line X.env = pure false := by rfl) (hf : X.fn x = true ∨ X.env.scope.names.lookup x = some .local := by first | exact .inl rfl | exact .inr rfl | assumption) : SW X Z Γ (.Assign [.Name x p] e pos) P := by
  refine ps_imp (ps_set hN hi hx h hs hf) fun D σ H ⟨M, A, k1, k2, k3, k4⟩ => ?_
  refine ⟨M, A, fun r v Γ1 M1 H1 n1 A1 T1 q1 => ?_⟩
  obtain ⟨M2, Γ2, A2, T2, n⟩ := A1.asg q1 n1
  exact k1 _ _ _ _ n A2 (T1.trans T2)
theorem sw_ret (h : EW X Z Γ e P.rt) : SW X Z Γ (.Return (some e) pos) P := ps_imp (ps_ret h) fun D σ H ⟨M, A, k1, k2, _⟩ => ⟨M, A, fun r v Γ1 M1 H1 n1 A1 T1 q1 => k2 _ _ _ _ _ _ n1 A1 q1⟩
theorem sw_retN (h : P.rt (.d .non) Γ) : SW X Z Γ (.Return none pos) P := ps_imp ps_retN fun D σ H ⟨M, A, k1, k2, _⟩ => k2 _ _ _ _ _ _ h A .non
theorem sw_expr (h : EW X Z Γ e fun _ Γ1 => P.nx Γ1) (hs : swapsWith e none pos.line X.env = pure false := by rfl) : SW X Z Γ (.Expr e pos) P := ps_imp (ps_expr h hs) fun D σ H ⟨M, A, k1, _⟩ => ⟨M, A, fun r v Γ1 M1 H1 n1 A1 T1 q1 => k1 _ _ _ _ n1 A1 T1⟩
theorem sw_pass (h : P.nx Γ) : SW X Z Γ (.Pass pos) P := ps_imp ps_pass fun D σ H ⟨M, A, k1, _⟩ => k1 _ _ _ _ h A (Tr.refl _ _ _)
theorem sw_break (h : P.bk Γ) : SW X Z Γ (.Break pos) P := ps_imp ps_break fun D σ H ⟨M, A, k1, k2, k3, k4⟩ => k3 _ _ _ _ h A (Tr.refl _ _ _)
theorem sw_cont (h : P.ct Γ) : SW X Z Γ (.Continue pos) P := ps_imp ps_continue fun D σ H ⟨M, A, k1, k2, k3, k4⟩ => k4 _ _ _ _ h A (Tr.refl _ _ _)
theorem sw_if {s1 s2 : List Stmt} (h : TW X Z Γ c fun t Γ1 => (t = true → SS X Z Γ1 s1 P) ∧ (t = false → SS X Z Γ1 s2 P)) : SW X Z Γ (.If c s1 s2 pos) P := by
  have ha : PSs X s1 (fun D σ H => ∃ i : List Sl, SS X Z i s1 P ∧ tsOf X.K Z i P D σ H) := pss_ex fun i hi => hi
  have hb : PSs X s2 (fun D σ H => ∃ i : List Sl, SS X Z i s2 P ∧ tsOf X.K Z i P D σ H) := pss_ex fun i hi => hi
  refine ps_imp (ps_if h ha hb) fun D σ H ⟨M, A, k⟩ => ?_
  refine ⟨M, A, fun t Γ1 M1 H1 ⟨n1, n2⟩ A1 T1 => ?_⟩
  cases t with
  | true => exact ⟨Γ1, n1 rfl, M1, A1, ends_tr T1 k⟩
  | false => exact ⟨Γ1, n2 rfl, M1, A1, ends_tr T1 k⟩
end
end Lw

namespace Lw
open PySem L2 PyProof.Rows
/-! ### 6. contracts -/
inductive Ak where
  | im (d : D) | bo (d : D) | mu (d : D)
inductive Ou where
  | ret (r : Rs) | exc (C : Addr) (fs : List (Str × D))
structure Ct (α : Type) where
  β : Type
  ar : α → List Ak
  ok : α → Prop
  rel : α → β → Prop
  aft : α → β → List Ak
  out : α → β → Ou
/-- whose outcome is told -/
def Ct.det {α : Type} (ar : α → List Ak) (ok : α → Prop) (aft : α → List Ak) (out : α → Ou) : Ct α := ⟨Unit, ar, ok, fun _ _ => True, fun y _ => aft y, fun y _ => out y⟩
section
variable {K : PySem.W.Frag}
def ArgRel (K : PySem.W.Frag) (M0 B : Addr → Prop) (H : Hp) : Ak → V → Prop
  | .im d, v => Rep K (Hd (Un M0 B) H) v d
  | .bo d, v => Rep1 K (Hd M0 H) (Hd (Un M0 B) H) v d
  | .mu d, v => ∃ a o, v = .ref a ∧ M0 a ∧ H a = some o ∧ HRep K (Hd (Un M0 B) H) o d
inductive ArgsRel (K : PySem.W.Frag) (M0 B : Addr → Prop) (H : Hp) : List Ak → List V → Prop
  | nil : ArgsRel K M0 B H [] []
  | cons {a v as vs} : ArgRel K M0 B H a v → ArgsRel K M0 B H as vs → ArgsRel K M0 B H (a :: as) (v :: vs)
def MuRel (K : PySem.W.Frag) (Hs H : Hp) : List Ak → List V → Prop
  | .mu d :: as, v :: vs => (∃ a o, v = .ref a ∧ H a = some o ∧ HRep K Hs o d) ∧ MuRel K Hs H as vs
  | _ :: as, _ :: vs => MuRel K Hs H as vs
  | _, _ => True
def XdRel (K : PySem.W.Frag) (Hs H : Hp) (od : Option Addr) (fs : List (Str × D)) : Prop := (fs = [] ∧ od = none) ∨ (fs ≠ [] ∧ ∃ d fv, od = some d ∧ H d = some (.xd fv) ∧ RepF K Hs fv fs)
def Frm (M0 : Addr → Prop) (H H' : Hp) : Prop := ∀ b o, H b = some o → ¬ M0 b → H' b = some o
def OutQ (K : PySem.W.Frag) (M0 B : Addr → Prop) (H : Hp) (aft : List Ak) (vs : List V) (Q : VK) (E : XK) : Ou → Prop
  | .ret (.sc d) => ∀ v H', Frm M0 H H' → MuRel K (Hd (Un M0 B) H') H' aft vs → Rep K (Hd (Un M0 B) H') v d → Q v H'
  | .ret (.nw d) => ∀ a o H', Frm M0 H H' → H a = none → H' a = some o → MuRel K (Hd (Un (fun b => M0 b ∨ b = a) B) H') H' aft vs → HRep K (Hd (Un (fun b => M0 b ∨ b = a) B) H') o d → Q (.ref a) H'
  | .exc C fs => ∀ od H', Frm M0 H H' → MuRel K (Hd (Un M0 B) H') H' aft vs → XdRel K (Hd (Un M0 B) H') H' od fs → E (.ref C) od H'
def Ak.isMu : Ak → Bool
  | .mu _ => true
  | _ => false
def MuDis (as : List Ak) (vs : List V) : Prop := ∀ (i j : Nat) (a : Addr) (x y : Ak), as[i]? = some x → as[j]? = some y → x.isMu = true → y.isMu = true → vs[i]? = some (.ref a) → vs[j]? = some (.ref a) → i = j
def spC {α : Type} (K : PySem.W.Frag) (c : Ct α) : Sp := fun vs H Q E => ∃ (x : α) (M0 B : Addr → Prop), c.ok x ∧ ArgsRel K M0 B H (c.ar x) vs ∧ MuDis (c.ar x) vs ∧ (∀ a, B a → H a ≠ none) ∧ (∀ a, M0 a → H a ≠ none) ∧ (∀ a, M0 a → ¬ B a) ∧
  ∀ b, c.rel x b → OutQ K M0 B H (c.aft x b) vs Q E (c.out x b)
theorem ArgsRel.length {M0 B : Addr → Prop} {H : Hp} : ∀ {as : List Ak} {vs : List V}, ArgsRel K M0 B H as vs → vs.length = as.length
  | _, _, .nil => rfl
  | _, _, .cons _ t => by simp [ArgsRel.length t]
theorem ArgsRel.get {M0 B : Addr → Prop} {H : Hp} : ∀ {as : List Ak} {vs : List V} {i : Nat} {x : Ak} {v : V}, ArgsRel K M0 B H as vs → as[i]? = some x → vs[i]? = some v → ArgRel K M0 B H x v
  | _, _, _, _, _, .nil, e, _ => by simp at e
  | _, _, 0, _, _, .cons r _, e, f => by simp at e f; subst e; subst f; exact r
  | _, _, i + 1, x, v, .cons _ t, e, f => ArgsRel.get (i := i) t (by simpa using e) (by simpa using f)

/-! a def's run -/
def slOf (i : Nat) : Ak → Sl
  | .im d => .im d
  | .bo d => .bo d
  | .mu d => .pw i d
def slotsA : List Ak → Nat → List Sl
  | [], _ => []
  | x :: as, i => slOf i x :: slotsA as (i + 1)
def slots (as : List Ak) (n : Nat) : List Sl := slotsA as 0 ++ List.replicate (n - as.length) .un
def MuFin : List Ak → Nat → List Sl → Prop
  | .mu d :: as, i, Γ => Γ[i]? = some (.pw i d) ∧ MuFin as (i + 1) Γ
  | _ :: as, i, Γ => MuFin as (i + 1) Γ
  | [], _, _ => True
def RetOK (aft : List Ak) : Ou → Rv → List Sl → Prop
  | .ret (.sc d), r, Γ => Im r Γ fun d' Γ' => d' = d ∧ MuFin aft 0 Γ'
  | .ret (.nw d), r, Γ => (r = .new d ∨ ∃ i, r = .own i ∧ Γ[i]? = some (.ow d)) ∧ MuFin aft 0 Γ
  | .exc _ _, _, _ => False
def RetB {α : Type} (c : Ct α) (y : α) (r : Rv) (Γ : List Sl) : Prop := ∃ b, RetOK (c.aft y b) (c.out y b) r Γ ∧ c.rel y b
def Po.of {α : Type} (c : Ct α) (y : α) : Po := { nx := fun Γ => RetB c y (.d .non) Γ, rt := fun r Γ => RetB c y r Γ }
abbrev XEx := Addr → List (Str × D) → List Sl → Prop
def wOf (K : PySem.W.Frag) (Z : Zc) (Ex : XEx) : WX := fun cls od σ H => ∃ C fs Γ M, Ex C fs Γ ∧ As K Z M Γ σ H ∧ cls = .ref C ∧ XdRel K (Hd (Un M Z.B) H) H od fs
def ExOf {α : Type} (c : Ct α) (y : α) : XEx := fun C fs Γ => ∃ b, (c.out y b = .exc C fs ∧ MuFin (c.aft y b) 0 Γ) ∧ c.rel y b
theorem RepF.mono' {H H' : Hp} (e : Ext H H') {vs : List (Str × V)} {ds : List (Str × D)} (h : RepF K H vs ds) : RepF K H' vs ds := RepF.mono e h
theorem XdRel.mono {Hs Hs' H : Hp} {od : Option Addr} {fs : List (Str × D)} (e : Ext Hs Hs') (h : XdRel K Hs H od fs) : XdRel K Hs' H od fs := by
  rcases h with h | ⟨h0, d, fv, h1, h2, h3⟩
  · exact .inl h
  · exact .inr ⟨h0, d, fv, h1, h2, RepF.mono e h3⟩
variable {Z : Zc} {M : Addr → Prop} {Γ : List Sl} {σ : L2.St} {H : Hp}
theorem As.muFin (A : As K Z M Γ σ H) {Hs : Hp} (x : Ext (Hd (Un M Z.B) H) Hs) : ∀ {as : List Ak} {i : Nat} {vs : List V}, MuFin as i Γ → (∀ j a, Z.pa (i + j) = some a → vs[j]? = some (.ref a)) → MuRel K Hs H as vs
  | [], _, vs, _, _ => by cases vs <;> trivial
  | .im _ :: as, i, [], _, _ => trivial
  | .bo _ :: as, i, [], _, _ => trivial
  | .mu _ :: as, i, [], _, _ => trivial
  | .im _ :: as, i, v :: vs, h, s => As.muFin A x (as := as) (i := i + 1) h fun j a e => by have := s (j + 1) a (by rw [← e]; congr 1; omega); simpa using this
  | .bo _ :: as, i, v :: vs, h, s => As.muFin A x (as := as) (i := i + 1) h fun j a e => by have := s (j + 1) a (by rw [← e]; congr 1; omega); simpa using this
  | .mu d :: as, i, v :: vs, ⟨h0, h⟩, s => by
    refine ⟨?_, As.muFin A x (as := as) (i := i + 1) h fun j a e => by have := s (j + 1) a (by rw [← e]; congr 1; omega); simpa using this⟩
    have hl : i < σ.length := by
      rw [A.len]
      rcases Nat.lt_or_ge i Γ.length with q | q
      · exact q
      · rw [List.getElem?_eq_none (by simpa using q)] at h0; cases h0
    obtain ⟨a, o, ea, _, ⟨_, pa⟩, ho, r⟩ := A.rel i _ _ h0 (List.getElem?_eq_getElem hl)
    have := s 0 a (by simpa using pa)
    have e' : v = .ref a := by simpa using this
    exact ⟨a, o, e', ho, r.mono x⟩
def paOf (vs : List V) (i : Nat) : Option Addr := match vs[i]? with
  | some (.ref a) => some a
  | _ => none
theorem paOf_some {vs : List V} {i : Nat} {a : Addr} (h : paOf vs i = some a) : vs[i]? = some (.ref a) := by
  unfold paOf at h
  split at h
  · rename_i a' e; cases h; exact e
  · cases h
theorem slotsA_get : ∀ {as : List Ak} {i j : Nat} {s : Sl}, (slotsA as i)[j]? = some s → ∃ x, as[j]? = some x ∧ s = slOf (i + j) x
  | [], _, _, _, e => by simp [slotsA] at e
  | x :: as, i, 0, s, e => by simp [slotsA] at e; exact ⟨x, by simp, e.symm⟩
  | x :: as, i, j + 1, s, e => by
    obtain ⟨y, h1, h2⟩ := slotsA_get (as := as) (i := i + 1) (j := j) (by simpa [slotsA] using e)
    exact ⟨y, by simpa using h1, by rw [h2]; congr 1; omega⟩
theorem slotsA_len : ∀ {as : List Ak} {i : Nat}, (slotsA as i).length = as.length
  | [], _ => rfl
  | _ :: as, i => by simp [slotsA, slotsA_len (as := as)]
theorem start_as {as : List Ak} {vs : List V} {M0 B : Addr → Prop} {N : List Str} (ha : ArgsRel K M0 B H as vs) (hd : MuDis as vs) (b0 : ∀ a, B a → H a ≠ none) (m0 : ∀ a, M0 a → H a ≠ none) (dj : ∀ a, M0 a → ¬ B a) :
    As K ⟨H, M0, B, paOf vs, b0, m0, dj⟩ M0 (slots as N.length) (L2.start N vs) H := by
  have hl := ha.length
  have get : ∀ (i : Nat) (s : Sl), (slots as N.length)[i]? = some s → (∃ x, as[i]? = some x ∧ s = slOf i x ∧ i < as.length) ∨ s = .un := fun i s e => by
    unfold slots at e
    rw [List.getElem?_append] at e
    split at e
    · rename_i hi
      rw [slotsA_len] at hi
      obtain ⟨x, h1, h2⟩ := slotsA_get e
      exact .inl ⟨x, h1, by simpa using h2, hi⟩
    · right
      rw [List.getElem?_replicate] at e
      split at e
      · exact (Option.some.inj e).symm
      · cases e
  have sg : ∀ i, i < as.length → (L2.start N vs)[i]? = (vs[i]?).map some := fun i hi => by
    unfold L2.start
    rw [List.getElem?_append_left (by simpa [hl] using hi)]
    simp
  refine ⟨by unfold L2.start slots; simp [slotsA_len, hl], fun i s ov h1 h2 => ?_, fun i j a h1 h2 => ?_, fun b o h n => h, fun b h => h, fun b h => .inl h, m0⟩
  · rcases get i s h1 with ⟨x, hx, e, hi⟩ | e
    · subst e
      have hv : vs[i]? = some (vs[i]'(by omega)) := List.getElem?_eq_getElem _
      have r := ha.get hx hv
      rw [sg i hi, hv] at h2
      cases h2
      cases x with
      | im d => exact ⟨_, rfl, r⟩
      | bo d => exact ⟨_, rfl, r⟩
      | mu d =>
        obtain ⟨a, o, e, m, ho, q⟩ := r
        refine ⟨a, o, by rw [e], m, ⟨m, ?_⟩, ho, q⟩
        show paOf vs i = some a
        unfold paOf; rw [hv, e]
    · subst e; trivial
  · have own : ∀ {i a}, OwnAt (slots as N.length) (L2.start N vs) i a → ∃ x, as[i]? = some x ∧ x.isMu = true ∧ vs[i]? = some (.ref a) := fun {i a} h => by
      obtain ⟨s, x1, x2, x3⟩ := h
      rcases get i s x1 with ⟨x, hx, e, hi⟩ | e
      · subst e
        refine ⟨x, hx, ?_, ?_⟩
        · cases x <;> first | rfl | cases x2
        · rw [sg i hi] at x3
          cases q : vs[i]? with
          | none => rw [q] at x3; cases x3
          | some v => rw [q] at x3; cases x3; rfl
      · subst e; cases x2
    obtain ⟨x, q1, q2, q3⟩ := own h1
    obtain ⟨y, p1, p2, p3⟩ := own h2
    exact hd i j a x y q1 p1 q2 p2 q3 p3
theorem Tr.ret {M0 B : Addr → Prop} (hm : ∀ b, M0 b → M b) : Ext (Hd (Un M B) H) (Hd (Un M0 B) H) := Hd_mono fun a o h n => ⟨fun q => n (q.elim (fun q => .inl (hm a q)) .inr), h⟩
/-- the end of a def's run -/
theorem As.ret {r : Rv} {v : V} (A : As K Z M Γ σ H) (h : RvRel K Z M Γ σ H v r) {vs : List V} (hpa : Z.pa = paOf vs) {aft : List Ak} {o : Ou} (hr : RetOK aft o r Γ) {Q : VK} {E : XK} (hq : OutQ K Z.M0 Z.B Z.H0 aft vs Q E o) : Q v H := by
  have s : ∀ j a, Z.pa (0 + j) = some a → vs[j]? = some (.ref a) := fun j a e => by rw [hpa] at e; exact paOf_some (by simpa using e)
  cases o with
  | exc C fs => exact hr.elim
  | ret rs =>
    cases rs with
    | sc d =>
      obtain ⟨M', d', Γ', A', T, q, e, mf⟩ := A.im (k := fun d' Γ' => d' = d ∧ MuFin aft 0 Γ') h hr
      subst e
      exact hq v H (fun b o e n => A.fr b o e n) (A'.muFin (Tr.ret A'.m0) mf s) (Rep.mono (Tr.ret A'.m0) q)
    | nw d =>
      obtain ⟨hd, mf⟩ := hr
      have fin : ∀ a o, v = .ref a → M a → Z.H0 a = none → H a = some o → HRep K (Hd (Un M Z.B) H) o d → Q v H := fun a o ev ma z ho rr => by
        have x : Ext (Hd (Un M Z.B) H) (Hd (Un (fun b => Z.M0 b ∨ b = a) Z.B) H) := Hd_mono fun b u h n => ⟨fun q => n (q.elim (fun q => q.elim (fun q => .inl (A.m0 b q)) fun q => .inl (q ▸ ma)) .inr), h⟩
        subst ev
        exact hq a o H (fun b o e n => A.fr b o e n) z ho (A.muFin x mf s) (rr.mono x)
      rcases hd with e | ⟨i, e, hs⟩
      · subst e
        obtain ⟨a, o, ev, ma, z, ho, rr, _⟩ := h
        exact fin a o ev ma z ho rr
      · subst e
        obtain ⟨a, o, ev, ma, z, ho, rr⟩ := A.rel i _ _ hs h
        exact fin a o (by cases ev; rfl) ma z ho rr
theorem exc_of {α : Type} {c : Ct α} {y : α} (A : As K Z M Γ σ H) {vs : List V} (hpa : Z.pa = paOf vs) {Q : VK} {E : XK} (hq : ∀ b, c.rel y b → OutQ K Z.M0 Z.B Z.H0 (c.aft y b) vs Q E (c.out y b)) {C : Addr} {fs : List (Str × D)} {od : Option Addr} (he : ExOf c y C fs Γ) (hx : XdRel K (Hd (Un M Z.B) H) H od fs) : E (.ref C) od H := by
  obtain ⟨b, ⟨e, mf⟩, hb⟩ := he
  have hq := hq b hb
  rw [e] at hq
  have s : ∀ j a, Z.pa (0 + j) = some a → vs[j]? = some (.ref a) := fun j a e => by rw [hpa] at e; exact paOf_some (by simpa using e)
  exact hq od H (fun b o e n => A.fr b o e n) (A.muFin (Tr.ret A.m0) mf s) (hx.mono (Tr.ret A.m0))
end
section
variable {P : Program} {w : World} {K : PySem.W.Frag} {mg : Str → Option Value} {base : Heap}
/-- THE RULE for a def -/
theorem fn_okC {α : Type} {x qual : Str} {st : Stmt} {f : Addr} {fd : FuncData} {N ps : List Str} {k : Nat} {c : Ct α} (F : Fun K x qual st f fd) (S : FnScope N ps (defScope st)) (hlen : ∀ y, (c.ar y).length = ps.length)
    (hbody : ∀ (y : α) (cdv : Value) (A : Around) (outer : List Env) (s : Shared) (H : Hp) (E : XK) (Z : Zc), c.ok y → Room k (A.deeper (envOfC qual (defScope st) s.heap.objs.size f cdv)) →
      Takes (cxOf (L2.CX P w) P w K mg base N qual (defScope st) f cdv A outer s H E) (wOf K Z (ExOf c y)) →
      PassesOwn (model P w) (cxOf (L2.CX P w) P w K mg base N qual (defScope st) f cdv A outer s H E).A (cxOf (L2.CX P w) P w K mg base N qual (defScope st) f cdv A outer s H E).env (cxOf (L2.CX P w) P w K mg base N qual (defScope st) f cdv A outer s H E).xe →
      SS (cxOf (L2.CX P w) P w K mg base N qual (defScope st) f cdv A outer s H E) Z (slots (c.ar y) N.length) (defBody st) (Po.of c y)) : FnOk P w K mg base (L2.CX P w) (k + 1) f fd ps (spC K c) := by
  refine F.okX S (fun vs H Q E h => ?_) (fun cdv A outer s H vs Q E hr h => ?_)
  · obtain ⟨y, M0, B, _, ha, _⟩ := h
    rw [ha.length, hlen]
  · obtain ⟨y, M0, B, hok, ha, hd, b0, m0, dj, hq⟩ := h
    have A0 := start_as (N := N) ha hd b0 m0 dj
    have tk : Takes (cxOf (L2.CX P w) P w K mg base N qual (defScope st) f cdv A outer s H E) (wOf K ⟨H, M0, B, paOf vs, b0, m0, dj⟩ (ExOf c y)) :=
      (takes_of rfl rfl rfl rfl).imp fun cls od σ H' ⟨C, fs, Γ, M, he, A', e, hx⟩ => by
        subst e
        exact exc_of (Z := ⟨H, M0, B, paOf vs, b0, m0, dj⟩) (vs := vs) (Q := Q) (E := E) A' rfl hq he hx
    refine ⟨_, hbody y cdv A outer s H E _ hok hr tk (passes_of rfl), M0, A0, fun Γ' M' σ' H' n A' _ => ?_, fun r v Γ' M' σ' H' n A' q => ?_, fun _ _ _ _ n _ _ => n.elim, fun _ _ _ _ n _ _ => n.elim⟩
    · obtain ⟨b, n, hb⟩ := n
      exact As.ret (Z := ⟨H, M0, B, paOf vs, b0, m0, dj⟩) (r := .d .non) (v := .non) (Q := Q) (E := E) (vs := vs) A' .non rfl n (hq b hb)
    · obtain ⟨b, n, hb⟩ := n
      exact As.ret (Z := ⟨H, M0, B, paOf vs, b0, m0, dj⟩) (Q := Q) (E := E) (vs := vs) A' q rfl n (hq b hb)
end
end Lw

namespace Lw
open PySem L2 PyProof.Rows
section
variable {K : PySem.W.Frag} {Z : Zc} {M : Addr → Prop} {Γ : List Sl} {σ : L2.St} {H : Hp}
/-- behind a call -/
theorem As.called (A : As K Z M Γ σ H) {M0 nw : Addr → Prop} {H' : Hp} {Γ' : List Sl} (hn : ∀ a, nw a → H a = none ∧ H' a ≠ none) (hfr : Frm M0 H H') (hM : ∀ a, M0 a → M a) (hM' : ∀ a, M0 a → H' a ≠ none)
    (hΓ : ∀ (j : Nat) (s : Sl), Γ'[j]? = some s → (Γ[j]? = some s ∧ (∀ a, OwnAt Γ σ j a → ¬ M0 a)) ∨
      (∃ a o' d', σ[j]? = some (some (.ref a)) ∧ H' a = some o' ∧ HRep K (Hd (Un (fun b => M b ∨ nw b) Z.B) H') o' d' ∧ ((∃ d, Γ[j]? = some (.ow d) ∧ s = .ow d') ∨ ∃ k d, Γ[j]? = some (.pw k d) ∧ s = .pw k d')))
    (hlen : Γ'.length = Γ.length) : As K Z (fun b => M b ∨ nw b) Γ' σ H' ∧ Tr Z M H (fun b => M b ∨ nw b) H' := by
  have hs : Ext (Hd (Un M Z.B) H) (Hd (Un (fun b => M b ∨ nw b) Z.B) H') := Hd_mono fun a o h n => by
    refine ⟨fun q => ?_, hfr a o h fun q => n (.inl (hM a q))⟩
    rcases q with (q | q) | q
    · exact n (.inl q)
    · rw [(hn a q).1] at h; cases h
    · exact n (.inr q)
  have hb : Ext (Hd M H) (Hd (fun b => M b ∨ nw b) H') := Hd_mono fun a o h n => by
    refine ⟨fun q => ?_, hfr a o h fun q => n (hM a q)⟩
    rcases q with q | q
    · exact n q
    · rw [(hn a q).1] at h; cases h
  have own : ∀ {j a}, OwnAt Γ' σ j a → OwnAt Γ σ j a := fun {j a} ⟨s, h1, h2, h3⟩ => by
    rcases hΓ j s h1 with ⟨e, _⟩ | ⟨a', o', d', _, _, _, ⟨d, e, _⟩ | ⟨k, d, e, _⟩⟩
    · exact ⟨s, e, h2, h3⟩
    · exact ⟨_, e, rfl, h3⟩
    · exact ⟨_, e, rfl, h3⟩
  refine ⟨⟨by rw [hlen]; exact A.len, fun j s ov h1 h2 => ?_, fun i j a h1 h2 => A.dis i j a (own h1) (own h2), fun b o h n => ?_, fun b h => .inl (A.m0 b h), fun b h => ?_, fun b h => ?_⟩, ⟨hs, hb⟩⟩
  · rcases hΓ j s h1 with ⟨e, nm⟩ | ⟨a, o', d', e0, ho, r, q⟩
    · have q := A.rel j s ov e h2
      cases s with
      | un => trivial
      | va u => exact q
      | im d => obtain ⟨v, e, r⟩ := q; exact ⟨v, e, r.mono hs⟩
      | bo d => obtain ⟨v, e, r⟩ := q; exact ⟨v, e, r.mono hb hs⟩
      | ow d =>
        obtain ⟨a, o, ea, m, z, ho, r⟩ := q
        exact ⟨a, o, ea, .inl m, z, hfr a o ho (nm a ⟨_, e, rfl, by rw [h2, ea]⟩), r.mono hs⟩
      | pw _ d =>
        obtain ⟨a, o, ea, m, z, ho, r⟩ := q
        exact ⟨a, o, ea, .inl m, z, hfr a o ho (nm a ⟨_, e, rfl, by rw [h2, ea]⟩), r.mono hs⟩
    · rw [e0] at h2; cases h2
      rcases q with ⟨d, e, es⟩ | ⟨k, d, e, es⟩
      · subst es
        obtain ⟨a2, o2, ea, m, z, _, _⟩ := A.rel j _ _ e e0
        cases ea
        exact ⟨a, o', rfl, .inl m, z, ho, r⟩
      · subst es
        obtain ⟨a2, o2, ea, m, z, _, _⟩ := A.rel j _ _ e e0
        cases ea
        exact ⟨a, o', rfl, .inl m, z, ho, r⟩
  · exact hfr b o (A.fr b o h n) fun q => (A.mf b (hM b q)).elim n fun z => by rw [z] at h; cases h
  · rcases h with h | h
    · exact A.mf b h
    · exact .inr (A.fresh0 (hn b h).1)
  · rcases h with h | h
    · by_cases q : M0 b
      · exact hM' b q
      · cases e : H b with
        | none => exact absurd e (A.ml b h)
        | some o => rw [hfr b o e q]; simp
    · exact (hn b h).2

/-! ### 7. arguments meet parameters -/
def Frz : List Ak → List Rv → List Sl → (List Rv → List Sl → Prop) → Prop
  | .im _ :: as, r :: rs, Γ, k => Im r Γ fun d Γ1 => Frz as rs Γ1 fun rs' Γ2 => k (.d d :: rs') Γ2
  | .bo _ :: as, r :: rs, Γ, k => Frz as rs Γ fun rs' Γ2 => k (r :: rs') Γ2
  | .mu _ :: as, r :: rs, Γ, k => Frz as rs Γ fun rs' Γ2 => k (r :: rs') Γ2
  | [], [], Γ, k => k [] Γ
  | _, _, _, _ => False
def ArgsOK (Γ : List Sl) : List Ak → List Rv → Prop
  | .im d :: as, .d d' :: rs => d' = d ∧ ArgsOK Γ as rs
  | .bo d :: as, r :: rs => view Γ r = some d ∧ ArgsOK Γ as rs
  | .mu d :: as, .own i :: rs => (Γ[i]? = some (.ow d) ∨ ∃ k, Γ[i]? = some (.pw k d)) ∧ ArgsOK Γ as rs
  | [], [] => True
  | _, _ => False
def hasOwn (i : Nat) : List Rv → Bool
  | [] => false
  | .own j :: rs => i == j || hasOwn i rs
  | _ :: rs => hasOwn i rs
def dsj : List Ak → List Rv → Bool
  | .mu _ :: as, .own i :: rs => !hasOwn i rs && dsj as rs
  | .bo _ :: as, .own i :: rs => !hasOwn i rs && dsj as rs
  | _ :: as, _ :: rs => dsj as rs
  | _, _ => true
def muIx : List Ak → List Rv → List Nat
  | .mu _ :: as, .own i :: rs => i :: muIx as rs
  | _ :: as, _ :: rs => muIx as rs
  | _, _ => []
def updS (d' : D) : Option Sl → List Sl → Nat → List Sl
  | some (.ow _), Γ, i => Γ.set i (.ow d')
  | some (.pw k _), Γ, i => Γ.set i (.pw k d')
  | _, Γ, _ => Γ
def updA : List Ak → List Rv → List Sl → List Sl
  | .mu d :: as, .own i :: rs, Γ => updA as rs (updS d Γ[i]? Γ i)
  | _ :: as, _ :: rs, Γ => updA as rs Γ
  | _, _, Γ => Γ
theorem set_get {Γ : List Sl} {i j : Nat} {s t : Sl} (h : (Γ.set i s)[j]? = some t) : (i = j ∧ t = s) ∨ (i ≠ j ∧ Γ[j]? = some t) := by
  by_cases e : i = j
  · subst e
    have hl : i < Γ.length := by
      rcases Nat.lt_or_ge i Γ.length with q | q
      · exact q
      · rw [List.getElem?_eq_none (by simpa using q)] at h; cases h
    rw [List.getElem?_set_self hl] at h; cases h
    exact .inl ⟨rfl, rfl⟩
  · rw [List.getElem?_set_ne e] at h; exact .inr ⟨e, h⟩
theorem updS_len {d' : D} {o : Option Sl} {Γ : List Sl} {i : Nat} : (updS d' o Γ i).length = Γ.length := by
  unfold updS; split <;> simp
theorem updA_len : ∀ {as : List Ak} {rs : List Rv} {Γ : List Sl}, (updA as rs Γ).length = Γ.length
  | [], _, _ => by unfold updA; rfl
  | a :: as, [], Γ => by cases a <;> (unfold updA; rfl)
  | .im _ :: as, r :: rs, Γ => by unfold updA; exact updA_len
  | .bo _ :: as, r :: rs, Γ => by unfold updA; exact updA_len
  | .mu d :: as, .own i :: rs, Γ => by unfold updA; rw [updA_len, updS_len]
  | .mu d :: as, .d _ :: rs, Γ => by unfold updA; exact updA_len
  | .mu d :: as, .bo _ :: rs, Γ => by unfold updA; exact updA_len
  | .mu d :: as, .new _ :: rs, Γ => by unfold updA; exact updA_len
  | .mu d :: as, .va _ :: rs, Γ => by unfold updA; exact updA_len
/-- what the new descriptions are -/
def UpG (R : Nat → D → Prop) (ix : List Nat) (Γ Γ' : List Sl) : Prop := ∀ (j : Nat) (s : Sl), Γ'[j]? = some s →
  (Γ[j]? = some s ∧ (j ∉ ix ∨ s.owns = false)) ∨ ∃ d', R j d' ∧ ((∃ d, Γ[j]? = some (.ow d) ∧ s = .ow d') ∨ ∃ k d, Γ[j]? = some (.pw k d) ∧ s = .pw k d')
theorem updA_get {R : Nat → D → Prop} : ∀ {as : List Ak} {rs : List Rv} {Γ : List Sl}, (∀ (p : Nat) (i : Nat) (d : D), as[p]? = some (.mu d) → rs[p]? = some (.own i) → R i d) → UpG R (muIx as rs) Γ (updA as rs Γ)
  | [], _, _, _ => by unfold updA muIx; exact fun j s h => .inl ⟨h, .inl (by simp)⟩
  | a :: as, [], Γ, _ => by cases a <;> (unfold updA muIx; exact fun j s h => .inl ⟨h, .inl (by simp)⟩)
  | .im _ :: as, r :: rs, Γ, h => by unfold updA muIx; exact updA_get fun p i d h1 h2 => h (p + 1) i d (by simpa using h1) (by simpa using h2)
  | .bo _ :: as, r :: rs, Γ, h => by unfold updA muIx; exact updA_get fun p i d h1 h2 => h (p + 1) i d (by simpa using h1) (by simpa using h2)
  | .mu d :: as, .d _ :: rs, Γ, h => by unfold updA muIx; exact updA_get fun p i d h1 h2 => h (p + 1) i d (by simpa using h1) (by simpa using h2)
  | .mu d :: as, .bo _ :: rs, Γ, h => by unfold updA muIx; exact updA_get fun p i d h1 h2 => h (p + 1) i d (by simpa using h1) (by simpa using h2)
  | .mu d :: as, .new _ :: rs, Γ, h => by unfold updA muIx; exact updA_get fun p i d h1 h2 => h (p + 1) i d (by simpa using h1) (by simpa using h2)
  | .mu d :: as, .va _ :: rs, Γ, h => by unfold updA muIx; exact updA_get fun p i d h1 h2 => h (p + 1) i d (by simpa using h1) (by simpa using h2)
  | .mu d0 :: as, .own i :: rs, Γ, h => by
    unfold updA muIx
    have ih := updA_get (R := R) (as := as) (rs := rs) (Γ := updS d0 Γ[i]? Γ i) fun p i d h1 h2 => h (p + 1) i d (by simpa using h1) (by simpa using h2)
    have r0 : R i d0 := h 0 i d0 (by simp) (by simp)
    intro j s hj
    have sp : ∀ t, (updS d0 Γ[i]? Γ i)[j]? = some t → (j ≠ i ∧ Γ[j]? = some t) ∨ (j = i ∧ ((∃ d, Γ[j]? = some (.ow d) ∧ t = .ow d0) ∨ (∃ k d, Γ[j]? = some (.pw k d) ∧ t = .pw k d0) ∨ (Γ[j]? = some t ∧ t.owns = false))) := fun t ht => by
      cases hs : Γ[i]? with
      | none =>
        rw [hs] at ht
        have ht' : Γ[j]? = some t := ht
        by_cases e : j = i
        · subst e; rw [hs] at ht'; cases ht'
        · exact .inl ⟨e, ht'⟩
      | some u =>
        rw [hs] at ht
        cases u with
        | ow d =>
          rcases set_get ht with ⟨e, et⟩ | ⟨e, ht⟩
          · subst e; exact .inr ⟨rfl, .inl ⟨d, hs, et⟩⟩
          · exact .inl ⟨fun q => e q.symm, ht⟩
        | pw k d =>
          rcases set_get ht with ⟨e, et⟩ | ⟨e, ht⟩
          · subst e; exact .inr ⟨rfl, .inr (.inl ⟨k, d, hs, et⟩)⟩
          · exact .inl ⟨fun q => e q.symm, ht⟩
        | un =>
          have ht' : Γ[j]? = some t := ht
          by_cases e : j = i
          · subst e; rw [hs] at ht'; cases ht'; exact .inr ⟨rfl, .inr (.inr ⟨hs, rfl⟩)⟩
          · exact .inl ⟨e, ht'⟩
        | im d =>
          have ht' : Γ[j]? = some t := ht
          by_cases e : j = i
          · subst e; rw [hs] at ht'; cases ht'; exact .inr ⟨rfl, .inr (.inr ⟨hs, rfl⟩)⟩
          · exact .inl ⟨e, ht'⟩
        | bo d =>
          have ht' : Γ[j]? = some t := ht
          by_cases e : j = i
          · subst e; rw [hs] at ht'; cases ht'; exact .inr ⟨rfl, .inr (.inr ⟨hs, rfl⟩)⟩
          · exact .inl ⟨e, ht'⟩
        | va d =>
          have ht' : Γ[j]? = some t := ht
          by_cases e : j = i
          · subst e; rw [hs] at ht'; cases ht'; exact .inr ⟨rfl, .inr (.inr ⟨hs, rfl⟩)⟩
          · exact .inl ⟨e, ht'⟩
    rcases ih j s hj with ⟨h1, h2⟩ | ⟨d', rd, ⟨d, h1, h2⟩ | ⟨k, d, h1, h2⟩⟩
    · rcases sp s h1 with ⟨ne, g⟩ | ⟨e, g | g | g⟩
      · refine .inl ⟨g, h2.imp (fun q => ?_) id⟩
        simp only [List.mem_cons, not_or]; exact ⟨ne, q⟩
      · obtain ⟨d, g1, g2⟩ := g
        subst e; exact .inr ⟨d0, r0, .inl ⟨d, g1, g2⟩⟩
      · obtain ⟨k, d, g1, g2⟩ := g
        subst e; exact .inr ⟨d0, r0, .inr ⟨k, d, g1, g2⟩⟩
      · exact .inl ⟨g.1, .inr g.2⟩
    · rcases sp _ h1 with ⟨ne, g⟩ | ⟨e, g | g | g⟩
      · exact .inr ⟨d', rd, .inl ⟨d, g, h2⟩⟩
      · obtain ⟨d2, g1, g2⟩ := g
        exact .inr ⟨d', rd, .inl ⟨d2, g1, h2⟩⟩
      · obtain ⟨k2, d2, g1, g2⟩ := g; cases g2
      · exact absurd g.2 (by simp [Sl.owns])
    · rcases sp _ h1 with ⟨ne, g⟩ | ⟨e, g | g | g⟩
      · exact .inr ⟨d', rd, .inr ⟨k, d, g, h2⟩⟩
      · obtain ⟨d2, g1, g2⟩ := g; cases g2
      · obtain ⟨k2, d2, g1, g2⟩ := g
        cases g2
        exact .inr ⟨d', rd, .inr ⟨_, d2, g1, h2⟩⟩
      · exact absurd g.2 (by simp [Sl.owns])
theorem As.frz {σ : L2.St} {H : Hp} : ∀ {as : List Ak} {rs : List Rv} {vs : List V} {Γ : List Sl} {M : Addr → Prop} (_ : As K Z M Γ σ H) (_ : RvsRel K Z M Γ σ H vs rs) (_ : ∀ r ∈ rs, ∀ d, r ≠ Rv.new d) {k : List Rv → List Sl → Prop} (_ : Frz as rs Γ k),
    ∃ M' rs' Γ', As K Z M' Γ' σ H ∧ Tr Z M H M' H ∧ RvsRel K Z M' Γ' σ H vs rs' ∧ (∀ r ∈ rs', ∀ d, r ≠ Rv.new d) ∧ k rs' Γ'
  | [], _, _, Γ, M, A, .nil, _, k, h => ⟨M, [], Γ, A, Tr.refl _ _ _, .nil, fun r hr => absurd hr (by simp), h⟩
  | [], _, _, _, _, A, .cons _ _, _, k, h => h.elim
  | a :: as, _, _, Γ, M, A, .nil, _, k, h => by cases a <;> exact h.elim
  | .im _ :: as, _, _, _, _, A, .cons a b, n, k, h => by
    obtain ⟨M1, d, Γ1, A1, T1, q1, h1⟩ := A.im a h
    have b1 := RvsRel.tr (Γ' := Γ1) T1 b fun r hr => n r (List.mem_cons_of_mem _ hr)
    obtain ⟨M2, rs', Γ2, A2, T2, q2, nn, h2⟩ := As.frz A1 b1 (fun r hr => n r (List.mem_cons_of_mem _ hr)) h1
    refine ⟨M2, .d d :: rs', Γ2, A2, T1.trans T2, .cons (Rep.mono T2.s q1) q2, fun r hr => ?_, h2⟩
    rcases List.mem_cons.mp hr with e | hr
    · subst e; intro _; simp
    · exact nn r hr
  | .bo _ :: as, _, _, _, _, A, .cons (r := r0) a b, n, k, h => by
    obtain ⟨M2, rs', Γ2, A2, T2, q2, nn, h2⟩ := As.frz A b (fun r hr => n r (List.mem_cons_of_mem _ hr)) h
    refine ⟨M2, _, Γ2, A2, T2, .cons (RvRel.tr (Γ' := Γ2) T2 a (n _ List.mem_cons_self)) q2, fun r hr => ?_, h2⟩
    rcases List.mem_cons.mp hr with e | hr
    · subst e; exact n _ List.mem_cons_self
    · exact nn r hr
  | .mu _ :: as, _, _, _, _, A, .cons (r := r0) a b, n, k, h => by
    obtain ⟨M2, rs', Γ2, A2, T2, q2, nn, h2⟩ := As.frz A b (fun r hr => n r (List.mem_cons_of_mem _ hr)) h
    refine ⟨M2, _, Γ2, A2, T2, .cons (RvRel.tr (Γ' := Γ2) T2 a (n _ List.mem_cons_self)) q2, fun r hr => ?_, h2⟩
    rcases List.mem_cons.mp hr with e | hr
    · subst e; exact n _ List.mem_cons_self
    · exact nn r hr
theorem RvsRel.length {vs : List V} {rs : List Rv} (h : RvsRel K Z M Γ σ H vs rs) : vs.length = rs.length := by
  induction h with
  | nil => rfl
  | cons _ _ ih => simp [ih]
theorem RvsRel.get : ∀ {vs : List V} {rs : List Rv} {i : Nat} {r : Rv} {v : V}, RvsRel K Z M Γ σ H vs rs → rs[i]? = some r → vs[i]? = some v → RvRel K Z M Γ σ H v r
  | _, _, _, _, _, .nil, e, _ => by simp at e
  | _, _, 0, _, _, .cons r _, e, f => by simp at e f; subst e; subst f; exact r
  | _, _, i + 1, r, v, .cons _ t, e, f => RvsRel.get (i := i) t (by simpa using e) (by simpa using f)
theorem hasOwn_of : ∀ {rs : List Rv} {i q : Nat}, rs[q]? = some (.own i) → hasOwn i rs = true
  | [], _, _, h => by simp at h
  | r :: rs, i, 0, h => by
    simp at h; subst h; simp [hasOwn]
  | r :: rs, i, q + 1, h => by
    have := hasOwn_of (rs := rs) (i := i) (q := q) (by simpa using h)
    cases r <;> simp [hasOwn, this]
/-- a mu or bo argument's list is not given again, where one of the two is changed -/
theorem dsj_spec : ∀ {as : List Ak} {rs : List Rv}, dsj as rs = true → ∀ {p q i : Nat} {x : Ak}, p < q → as[p]? = some x → (∀ d, x ≠ .im d) → rs[p]? = some (.own i) → rs[q]? = some (.own i) → False
  | [], _, _, p, q, i, x, _, h1, _, _, _ => by simp at h1
  | a :: as, [], _, p, q, i, x, _, _, _, h3, _ => by simp at h3
  | a :: as, r :: rs, h, 0, 0, i, x, lt, _, _, _, _ => by omega
  | a :: as, r :: rs, h, 0, q + 1, i, x, lt, h1, h2, h3, h4 => by
    simp at h1 h3
    subst h1; subst h3
    have := hasOwn_of (rs := rs) (i := i) (q := q) (by simpa using h4)
    cases a with
    | im d => exact h2 d rfl
    | bo d => simp [dsj, this] at h
    | mu d => simp [dsj, this] at h
  | a :: as, r :: rs, h, p + 1, 0, i, x, lt, _, _, _, _ => by omega
  | a :: as, r :: rs, h, p + 1, q + 1, i, x, lt, h1, h2, h3, h4 => by
    have hd : dsj as rs = true := by
      cases a <;> cases r <;> simp [dsj] at h <;> first | exact h | exact h.2
    exact dsj_spec hd (p := p) (q := q) (by omega) (by simpa using h1) h2 (by simpa using h3) (by simpa using h4)
theorem ArgsOK.get : ∀ {as : List Ak} {rs : List Rv}, ArgsOK Γ as rs → ∀ {p : Nat} {x : Ak}, as[p]? = some x → ∃ r, rs[p]? = some r ∧ (match x with
    | .im d => r = .d d
    | .bo d => view Γ r = some d
    | .mu d => ∃ i, r = .own i ∧ (Γ[i]? = some (.ow d) ∨ ∃ k, Γ[i]? = some (.pw k d)))
  | [], [], _, p, x, h => by simp at h
  | .im d :: as, .d d' :: rs, ⟨e, t⟩, 0, x, h => by simp at h; subst h; subst e; exact ⟨_, rfl, rfl⟩
  | .im d :: as, .d d' :: rs, ⟨e, t⟩, p + 1, x, h => by
    obtain ⟨r, h1, h2⟩ := ArgsOK.get t (p := p) (x := x) (by simpa using h)
    exact ⟨r, by simpa using h1, h2⟩
  | .bo d :: as, r0 :: rs, ⟨e, t⟩, 0, x, h => by simp at h; subst h; exact ⟨_, rfl, e⟩
  | .bo d :: as, r0 :: rs, ⟨e, t⟩, p + 1, x, h => by
    obtain ⟨r, h1, h2⟩ := ArgsOK.get t (p := p) (x := x) (by simpa using h)
    exact ⟨r, by simpa using h1, h2⟩
  | .mu d :: as, .own i :: rs, ⟨e, t⟩, 0, x, h => by simp at h; subst h; exact ⟨_, rfl, i, rfl, e⟩
  | .mu d :: as, .own i :: rs, ⟨e, t⟩, p + 1, x, h => by
    obtain ⟨r, h1, h2⟩ := ArgsOK.get t (p := p) (x := x) (by simpa using h)
    exact ⟨r, by simpa using h1, h2⟩
theorem ArgsOK.len : ∀ {as : List Ak} {rs : List Rv}, ArgsOK Γ as rs → as.length = rs.length
  | [], [], _ => rfl
  | .im d :: as, .d d' :: rs, ⟨_, t⟩ => by simp [ArgsOK.len t]
  | .bo d :: as, r0 :: rs, ⟨_, t⟩ => by simp [ArgsOK.len t]
  | .mu d :: as, .own i :: rs, ⟨_, t⟩ => by simp [ArgsOK.len t]
  | .im d :: as, .new _ :: rs, h => h.elim
  | .im d :: as, .bo _ :: rs, h => h.elim
  | .im d :: as, .own _ :: rs, h => h.elim
  | .mu d :: as, .d _ :: rs, h => h.elim
  | .mu d :: as, .bo _ :: rs, h => h.elim
  | .mu d :: as, .new _ :: rs, h => h.elim
  | .mu d :: as, .va _ :: rs, h => h.elim
  | .im d :: as, .va _ :: rs, h => h.elim
theorem ArgsRel.of_get {M0 B : Addr → Prop} : ∀ {as : List Ak} {vs : List V}, as.length = vs.length → (∀ (p : Nat) (x : Ak) (v : V), as[p]? = some x → vs[p]? = some v → ArgRel K M0 B H x v) → ArgsRel K M0 B H as vs
  | [], [], _, _ => .nil
  | a :: as, v :: vs, hl, h => .cons (h 0 a v (by simp) (by simp)) (ArgsRel.of_get (by simpa using hl) fun p x w h1 h2 => h (p + 1) x w (by simpa using h1) (by simpa using h2))
theorem muIx_mem : ∀ {as : List Ak} {rs : List Rv} {i : Nat}, i ∈ muIx as rs → ∃ (p : Nat) (d : D), as[p]? = some (Ak.mu d) ∧ rs[p]? = some (Rv.own i)
  | [], _, i, h => by simp [muIx] at h
  | a :: as, [], i, h => by cases a <;> simp [muIx] at h
  | a :: as, r :: rs, i, h => by
    have rec_ : i ∈ muIx as rs → ∃ (p : Nat) (d : D), (a :: as)[p]? = some (Ak.mu d) ∧ (r :: rs)[p]? = some (Rv.own i) := fun h => by
      obtain ⟨p, d, h1, h2⟩ := muIx_mem h
      exact ⟨p + 1, d, by simpa using h1, by simpa using h2⟩
    cases a with
    | im d => cases r <;> exact rec_ (by simpa [muIx] using h)
    | bo d => cases r <;> exact rec_ (by simpa [muIx] using h)
    | mu d =>
      cases r with
      | own j =>
        simp only [muIx, List.mem_cons] at h
        rcases h with h | h
        · subst h; exact ⟨0, d, by simp, by simp⟩
        · exact rec_ h
      | d _ => exact rec_ (by simpa [muIx] using h)
      | bo _ => exact rec_ (by simpa [muIx] using h)
      | new _ => exact rec_ (by simpa [muIx] using h)
      | va _ => exact rec_ (by simpa [muIx] using h)
theorem mem_muIx : ∀ {as : List Ak} {rs : List Rv} {p i : Nat} {d : D}, as[p]? = some (Ak.mu d) → rs[p]? = some (Rv.own i) → i ∈ muIx as rs
  | [], _, _, _, _, h, _ => by simp at h
  | a :: as, [], _, _, _, _, h => by simp at h
  | a :: as, r :: rs, 0, i, d, h1, h2 => by simp at h1 h2; subst h1; subst h2; simp [muIx]
  | a :: as, r :: rs, p + 1, i, d, h1, h2 => by
    have := mem_muIx (as := as) (rs := rs) (p := p) (i := i) (d := d) (by simpa using h1) (by simpa using h2)
    cases a <;> cases r <;> simp [muIx, this]
theorem MuRel.get {Hs H' : Hp} : ∀ {as : List Ak} {vs : List V} {p : Nat} {d : D} {v : V}, MuRel K Hs H' as vs → as[p]? = some (.mu d) → vs[p]? = some v → ∃ a o, v = .ref a ∧ H' a = some o ∧ HRep K Hs o d
  | [], _, _, _, _, _, h, _ => by simp at h
  | a :: as, [], _, _, _, _, _, h => by simp at h
  | a :: as, w :: vs, 0, d, v, m, h1, h2 => by simp at h1 h2; subst h1; subst h2; exact m.1
  | a :: as, w :: vs, p + 1, d, v, m, h1, h2 => by
    have m' : MuRel K Hs H' as vs := by cases a <;> first | exact m | exact m.2
    exact MuRel.get m' (by simpa using h1) (by simpa using h2)

/-! ### 8. calls -/
/-- the answer's description at the caller -/
def CallPost {α : Type} (c : Ct α) (Ex : XEx) (N : Rv → List Sl → Prop) (rs : List Rv) (Γ : List Sl) : Prop := ∃ y, c.ok y ∧ Frz (c.ar y) rs Γ fun rs' Γ2 =>
  ArgsOK Γ2 (c.ar y) rs' ∧ dsj (c.ar y) rs' = true ∧ ∀ b, c.rel y b → muIx (c.aft y b) rs' = muIx (c.ar y) rs' ∧
  (match c.out y b with
    | .ret z => N z.rv (updA (c.aft y b) rs' Γ2)
    | .exc C fs => Ex C fs (updA (c.aft y b) rs' Γ2))
theorem hd_un {M0 M1 : Addr → Prop} {B B1 : Addr → Prop} (h : ∀ a, Un M0 B a ↔ Un M1 B1 a) : Un M0 B = Un M1 B1 := funext fun a => propext (h a)
theorem call_sp {α : Type} {c : Ct α} {Ex : XEx} {N : Rv → List Sl → Prop} {rs : List Rv} {vs : List V} (A : As K Z M Γ σ H) (hr : RvsRel K Z M Γ σ H vs rs) (nn : ∀ r ∈ rs, ∀ d, r ≠ Rv.new d) (h : CallPost c Ex N rs Γ) {Q : VK}
    (k : ∀ r v Γ' M' H', N r Γ' → As K Z M' Γ' σ H' → Tr Z M H M' H' → RvRel K Z M' Γ' σ H' v r → Q v H') : spC K c vs H Q (WE (wOf K Z Ex) σ) := by
  obtain ⟨y, hok, hf⟩ := h
  obtain ⟨M1, rs', Γ1, A1, T1, q1, nn1, ha, hd, hbb⟩ := As.frz A hr nn hf
  have ll := ha.len
  have lv := q1.length
  -- what is changed
  let M0 : Addr → Prop := fun a => ∃ i ∈ muIx (c.ar y) rs', σ[i]? = some (some (.ref a))
  let B : Addr → Prop := fun a => (M1 a ∨ Z.B a) ∧ ¬ M0 a
  have own : ∀ {p : Nat} {d : D} {i : Nat}, (c.ar y)[p]? = some (.mu d) → rs'[p]? = some (.own i) → (Γ1[i]? = some (.ow d) ∨ ∃ k, Γ1[i]? = some (.pw k d)) := fun {p d i} h1 h2 => by
    obtain ⟨r, e1, i', e2, e3⟩ := ha.get h1
    rw [h2] at e1; cases e1; cases e2; exact e3
  have ownat : ∀ {i a}, i ∈ muIx (c.ar y) rs' → σ[i]? = some (some (V.ref a)) → OwnAt Γ1 σ i a := fun {i a} hi hs => by
    obtain ⟨p, d, h1, h2⟩ := muIx_mem hi
    rcases own h1 h2 with e | ⟨k, e⟩
    · exact ⟨_, e, rfl, hs⟩
    · exact ⟨_, e, rfl, hs⟩
  have hM : ∀ a, M0 a → M1 a := fun a ⟨i, hi, hs⟩ => ((ownat hi hs).get A1).1
  have un : Un M0 B = Un M1 Z.B := hd_un fun a => by
    constructor
    · rintro (q | q)
      · exact .inl (hM a q)
      · exact q.1
    · intro q
      by_cases m : M0 a
      · exact .inl m
      · exact .inr ⟨q, m⟩
  have xb : Ext (Hd M1 H) (Hd M0 H) := Hd_mono fun a o h n => ⟨fun q => n (hM a q), h⟩
  refine ⟨y, M0, B, hok, ArgsRel.of_get (by rw [ll, lv]) fun p x v h1 h2 => ?_, fun p q a x x' h1 h2 m1 m2 h3 h4 => ?_, fun a hb => ?_, fun a hm => ((hM a hm) |> A1.ml a), fun a hm hb => hb.2 hm, ?_⟩
  · obtain ⟨r, e1, e2⟩ := ha.get h1
    have rr := q1.get e1 h2
    cases x with
    | im d =>
      have e2 : r = .d d := e2
      subst e2
      show Rep K (Hd (Un M0 B) H) v d
      rw [un]; exact rr
    | bo d =>
      have e2 : view Γ1 r = some d := e2
      show Rep1 K (Hd M0 H) (Hd (Un M0 B) H) v d
      rw [un]
      cases r with
      | d d' => cases e2; exact .inl rr
      | bo d' => cases e2; exact Rep1.mono xb (Ext.refl _) rr
      | new d' => exact absurd rfl (nn1 _ (List.mem_of_getElem? e1) d')
      | va u => cases e2
      | own i =>
        have rr : σ[i]? = some (some v) := rr
        have no : ∀ a, v = .ref a → ¬ M0 a := fun a ea ⟨j, hj, hs⟩ => by
          obtain ⟨p', d', g1, g2⟩ := muIx_mem hj
          have oi : OwnAt Γ1 σ i a := by
            subst ea
            have e2' : (match Γ1[i]? with
              | some (.ow d) => some d
              | some (.pw _ d) => some d
              | _ => none) = some d := e2
            cases hs : Γ1[i]? with
            | none => rw [hs] at e2'; cases e2'
            | some s =>
              cases s with
              | ow _ => exact ⟨_, hs, rfl, rr⟩
              | pw _ _ => exact ⟨_, hs, rfl, rr⟩
              | un => rw [hs] at e2'; cases e2'
              | im _ => rw [hs] at e2'; cases e2'
              | bo _ => rw [hs] at e2'; cases e2'
              | va _ => rw [hs] at e2'; cases e2'
          have eij := A1.dis i j a oi (ownat hj hs)
          subst eij
          rcases Nat.lt_trichotomy p p' with lt | e | gt
          · exact dsj_spec hd lt h1 (fun d => by simp) e1 g2
          · subst e; rw [h1] at g1; cases g1
          · exact dsj_spec hd gt g1 (fun d => by simp) g2 e1
        have q := A1.view (r := .own i) rr e2
        have e2' : (match Γ1[i]? with
              | some (.ow d) => some d
              | some (.pw _ d) => some d
              | _ => none) = some d := e2
        have fin : ∀ a o, v = .ref a → H a = some o → HRep K (Hd (Un M1 Z.B) H) o d → Rep1 K (Hd M0 H) (Hd (Un M1 Z.B) H) v d := fun a o ea ho rh => .inr ⟨a, o, ea, Shell.of (Hd_some.mpr ⟨no a ea, ho⟩), rh⟩
        cases hs : Γ1[i]? with
        | none => rw [hs] at e2'; cases e2'
        | some s =>
          rw [hs] at e2'
          have z := A1.rel i s _ hs rr
          cases s with
          | ow d' => cases e2'; obtain ⟨a, o, ea, _, _, ho, rh⟩ := z; exact fin a o (Option.some.inj ea) ho rh
          | pw _ d' => cases e2'; obtain ⟨a, o, ea, _, _, ho, rh⟩ := z; exact fin a o (Option.some.inj ea) ho rh
          | un => cases e2'
          | im _ => cases e2'
          | bo _ => cases e2'
          | va _ => cases e2'
    | mu d =>
      obtain ⟨i, ei, e3⟩ := e2
      subst ei
      have rr : σ[i]? = some (some v) := rr
      have hi := mem_muIx h1 e1
      show ∃ a o, v = .ref a ∧ M0 a ∧ H a = some o ∧ HRep K (Hd (Un M0 B) H) o d
      rw [un]
      rcases e3 with e | ⟨k, e⟩
      · obtain ⟨a, o, ea, _, _, ho, rh⟩ := A1.rel i _ _ e rr
        cases ea
        exact ⟨a, o, rfl, ⟨i, hi, rr⟩, ho, rh⟩
      · obtain ⟨a, o, ea, _, _, ho, rh⟩ := A1.rel i _ _ e rr
        cases ea
        exact ⟨a, o, rfl, ⟨i, hi, rr⟩, ho, rh⟩
  · obtain ⟨r, e1, e2⟩ := ha.get h1
    obtain ⟨r', f1, f2⟩ := ha.get h2
    cases x with
    | im _ => cases m1
    | bo _ => cases m1
    | mu d =>
      cases x' with
      | im _ => cases m2
      | bo _ => cases m2
      | mu d' =>
        obtain ⟨i, ei, _⟩ := e2
        obtain ⟨j, ej, _⟩ := f2
        subst ei; subst ej
        have si : σ[i]? = some (some (V.ref a)) := q1.get e1 h3
        have sj : σ[j]? = some (some (V.ref a)) := q1.get f1 h4
        have eij := A1.dis i j a (ownat (mem_muIx h1 e1) si) (ownat (mem_muIx h2 f1) sj)
        subst eij
        rcases Nat.lt_trichotomy p q with lt | e | gt
        · exact (dsj_spec hd lt h1 (fun d => by simp) e1 f1).elim
        · exact e
        · exact (dsj_spec hd gt h2 (fun d => by simp) f1 e1).elim
  · rcases hb.1 with m | b
    · exact A1.ml a m
    · cases e : Z.H0 a with
      | none => exact absurd e (Z.b0 a b)
      | some o => rw [A1.fr a o e fun m => Z.dj a m b]; simp
  · -- the end
    intro b hrb
    obtain ⟨hix, ho⟩ := hbb b hrb
    have fin : ∀ {H' : Hp} {nw : Addr → Prop}, (∀ a, nw a → H a = none ∧ H' a ≠ none) → Frm M0 H H' → MuRel K (Hd (Un (fun b => M1 b ∨ nw b) Z.B) H') H' (c.aft y b) vs →
        As K Z (fun b => M1 b ∨ nw b) (updA (c.aft y b) rs' Γ1) σ H' ∧ Tr Z M1 H (fun b => M1 b ∨ nw b) H' := fun {H' nw} hn hfr hm => by
      have R : ∀ (p i : Nat) (d : D), (c.aft y b)[p]? = some (.mu d) → rs'[p]? = some (.own i) → ∃ a o', σ[i]? = some (some (V.ref a)) ∧ H' a = some o' ∧ HRep K (Hd (Un (fun b => M1 b ∨ nw b) Z.B) H') o' d := fun p i d h1 h2 => by
        have hp : p < vs.length := by
          rw [lv]
          rcases Nat.lt_or_ge p rs'.length with q | q
          · exact q
          · rw [List.getElem?_eq_none (by simpa using q)] at h2; cases h2
        have hv := List.getElem?_eq_getElem hp
        obtain ⟨a, o, ea, ho, rh⟩ := hm.get h1 hv
        have si : σ[i]? = some (some _) := q1.get h2 hv
        rw [ea] at si
        exact ⟨a, o, si, ho, rh⟩
      have up := updA_get (R := fun i d => ∃ a o', σ[i]? = some (some (V.ref a)) ∧ H' a = some o' ∧ HRep K (Hd (Un (fun b => M1 b ∨ nw b) Z.B) H') o' d) (Γ := Γ1) R
      refine A1.called hn hfr hM (fun a ⟨i, hi, hs⟩ => ?_) (fun j s hj => ?_) updA_len
      · have hi' : i ∈ muIx (c.aft y b) rs' := by rw [hix]; exact hi
        obtain ⟨p, d, h1, h2⟩ := muIx_mem hi'
        obtain ⟨a', o', e1, e2, _⟩ := R p i d h1 h2
        rw [hs] at e1; cases e1; rw [e2]; simp
      · rcases up j s hj with ⟨g1, g2⟩ | ⟨d', ⟨a, o', e1, e2, e3⟩, g⟩
        · refine .inl ⟨g1, fun a oa ⟨i, hi, hs⟩ => ?_⟩
          rcases g2 with g2 | g2
          · have := A1.dis j i a oa (ownat hi hs)
            subst this
            exact g2 (by rw [hix]; exact hi)
          · obtain ⟨s', x1, x2, x3⟩ := oa
            rw [g1] at x1; cases x1
            rw [g2] at x2; cases x2
        · exact .inr ⟨a, o', d', e1, e2, e3, g⟩
    cases hout : c.out y b with
    | ret z =>
      rw [hout] at ho
      cases z with
      | sc d =>
        intro v H' hfr hm hv
        rw [un] at hm hv
        obtain ⟨A2, T2⟩ := fin (nw := fun _ => False) (fun a q => q.elim) hfr (by simpa using hm)
        refine k _ v _ _ H' ho A2 (T1.trans T2) ?_
        show Rep K _ v d
        simpa using hv
      | nw d =>
        intro a o H' hfr hnone hsome hm hv
        have un2 : Un (fun b => M0 b ∨ b = a) B = Un (fun b => M1 b ∨ b = a) Z.B := hd_un fun b => by
          have := congrFun un b
          have hb : Un M0 B b ↔ Un M1 Z.B b := by rw [this]
          constructor
          · rintro ((q | q) | q)
            · exact (hb.mp (.inl q)).elim (fun q => .inl (.inl q)) .inr
            · exact .inl (.inr q)
            · exact (hb.mp (.inr q)).elim (fun q => .inl (.inl q)) .inr
          · rintro ((q | q) | q)
            · exact (hb.mpr (.inl q)).elim (fun q => .inl (.inl q)) .inr
            · exact .inl (.inr q)
            · exact (hb.mpr (.inr q)).elim (fun q => .inl (.inl q)) .inr
        rw [un2] at hm hv
        obtain ⟨A2, T2⟩ := fin (nw := fun b => b = a) (fun b q => by subst q; exact ⟨hnone, by rw [hsome]; simp⟩) hfr hm
        refine k _ _ _ _ H' ho A2 (T1.trans T2) ⟨a, o, rfl, .inr rfl, A1.fresh0 hnone, hsome, hv, fun i oa => ?_⟩
        obtain ⟨s', x1, x2, x3⟩ := oa
        rcases updA_get (R := fun _ _ => True) (Γ := Γ1) (as := c.aft y b) (rs := rs') (fun _ _ _ _ _ => trivial) i s' x1 with ⟨g1, _⟩ | ⟨d', _, ⟨d2, g1, _⟩ | ⟨k2, d2, g1, _⟩⟩
        · exact (OwnAt.get A1 ⟨s', g1, x2, x3⟩).2 hnone
        · exact (OwnAt.get A1 ⟨_, g1, rfl, x3⟩).2 hnone
        · exact (OwnAt.get A1 ⟨_, g1, rfl, x3⟩).2 hnone
    | exc C fs =>
      rw [hout] at ho
      intro od H' hfr hm hx
      rw [un] at hm hx
      obtain ⟨A2, T2⟩ := fin (nw := fun _ => False) (fun a q => q.elim) hfr (by simpa using hm)
      exact ⟨C, fs, _, _, ho, A2, rfl, by simpa using hx⟩
end
/-- a def of the text, called by its name -/
structure Def (P : Program) (w : World) (K : PySem.W.Frag) (mg : Str → Option Value) (base : Heap) (x : Str) (k : Nat) {α : Type} (c : Ct α) : Prop where
  ex : ∃ (f : Addr) (fd : FuncData) (ps : List Str), FnOk P w K mg base (L2.CX P w) k f fd ps (spC K c) ∧ mg x = some (.ref f) ∧ PySem.W.keepIn K (.ref f) = true ∧ Binds K fd ps []
section
variable {X : Cx} {Z : Zc} {Γ : List Sl} {N : Rv → List Sl → Prop} {e : Expr} {es : List Expr} {pos p : Pos} {x : Str} {k : Nat} {α : Type} {c : Ct α} {Ex : XEx}
theorem ew_call (D : Def X.prog X.w X.K X.mg X.base x k c) (hr : Room k X.A) (tk : Takes X (wOf X.K Z Ex)) (h : AW X Z Γ (e :: es) (CallPost c Ex N)) (hg : Gl X x := by rfl)
    (hdb : (x == ("__debug__" : Str)) = false := by decide) (he : starEach (e :: es) X.env = (false, eval e X.env) :: starEach es X.env := by rfl) (hpl : (backTo pos (starEach es X.env)).any (·.1) = false := by rfl) : EW X Z Γ (.Call (.Name x p) (e :: es) [] pos) N := by
  obtain ⟨f, fd, ps, F, hm, hk, hb⟩ := D.ex
  refine pe_imp (pe_callSD F hr hg hm hk hb (dvs := []) (ds := []) .nil (E := WE (wOf X.K Z Ex)) (fun σ => passAt tk σ) h hdb he hpl) fun σ H Q ⟨M, A, k⟩ => ?_
  refine ⟨M, A, fun rs vs Γ1 M1 H1 n1 nn A1 T1 q1 => ?_⟩
  show spC X.K c (vs ++ []) H1 Q _
  rw [List.append_nil]
  exact call_sp A1 q1 nn n1 fun r v Γ' M' H' n A' T' q => k r v Γ' M' H' n A' (T1.trans T') q
end
end Lw

namespace Lw
open PySem L2 PyProof.Rows
section
variable {K : PySem.W.Frag} {Z : Zc} {M : Addr → Prop} {Γ : List Sl} {σ : L2.St} {H : Hp}
/-- the slot j owns d -/
def Owns (Γ : List Sl) (j : Nat) (d : D) : Prop := Γ[j]? = some (.ow d) ∨ ∃ k, Γ[j]? = some (.pw k d)
theorem As.owns (A : As K Z M Γ σ H) {j : Nat} {d : D} (h : Owns Γ j d) {v : V} (hv : σ[j]? = some (some v)) : ∃ a o, v = .ref a ∧ M a ∧ H a = some o ∧ HRep K (Hd (Un M Z.B) H) o d ∧ OwnAt Γ σ j a := by
  rcases h with h | ⟨k, h⟩
  · obtain ⟨a, o, e, m, _, ho, r⟩ := A.rel j _ _ h hv
    cases e
    exact ⟨a, o, rfl, m, ho, r, _, h, rfl, hv⟩
  · obtain ⟨a, o, e, m, _, ho, r⟩ := A.rel j _ _ h hv
    cases e
    exact ⟨a, o, rfl, m, ho, r, _, h, rfl, hv⟩
theorem As.mutate (A : As K Z M Γ σ H) {j : Nat} {d d' : D} (h : Owns Γ j d) {a : Addr} (ha : σ[j]? = some (some (.ref a))) {o' : HO} (hr : HRep K (Hd (Un M Z.B) H) o' d') :
    As K Z M (updS d' Γ[j]? Γ j) σ (upd H a o') ∧ Tr Z M H M (upd H a o') := by
  obtain ⟨a', o, e, m, ho, _, oa⟩ := A.owns h ha
  cases e
  have hx : Ext (Hd (Un M Z.B) H) (Hd (Un (fun b => M b ∨ False) Z.B) (upd H a o')) := Hd_mono fun b u hb n => by
    have ne : b ≠ a := fun e => n (.inl (e ▸ m))
    exact ⟨fun q => n (q.elim (fun q => q.elim .inl False.elim) .inr), by rw [upd_ne ne]; exact hb⟩
  have up := updA_get (R := fun i d => i = j ∧ d = d') (as := [.mu d']) (rs := [.own j]) (Γ := Γ) fun p i d h1 h2 => by
    cases p with
    | zero => simp at h1 h2; exact ⟨h2.symm, h1.symm⟩
    | succ p => simp at h1
  have r := A.called (M0 := fun b => b = a) (nw := fun _ => False) (H' := upd H a o') (Γ' := updS d' Γ[j]? Γ j) (fun _ q => q.elim) (fun b u hb n => by rw [upd_ne n]; exact hb) (fun b q => q ▸ m) (fun b q => by subst q; rw [upd_same]; simp)
    (fun i s hs => by
      rcases up i s hs with ⟨g1, g2⟩ | ⟨d2, ⟨e1, e2⟩, g⟩
      · refine .inl ⟨g1, fun b ob eb => ?_⟩
        subst eb
        have := A.dis i j b ob oa
        subst this
        rcases g2 with g2 | g2
        · exact g2 (by simp [muIx])
        · obtain ⟨s', x1, x2, x3⟩ := ob
          rw [g1] at x1; cases x1
          rw [g2] at x2; cases x2
      · subst e1; subst e2
        exact .inr ⟨a, o', d2, ha, upd_same, hr.mono hx, g⟩) updS_len
  simpa using r
end
section
variable {X : Cx} {Z : Zc} {Γ : List Sl} {N : Rv → List Sl → Prop} {a b c e o i : Expr} {es : List Expr} {pos : Pos} {P : Po}
/-- x[i] = e, x a slot that owns a list -/
theorem sw_setix {spos : Pos} (h : EW X Z Γ e fun re Γ1 => Im re Γ1 fun d Γ2 => EW X Z Γ2 o fun ro Γ3 => ∃ j, ro = .own j ∧ EW X Z Γ3 i fun ri Γ4 => ∃ xs k n, Owns Γ4 j (.lst xs) ∧ view Γ4 ri = some (.int k) ∧ ixN xs.length k = some n ∧ P.nx (updS (.lst (xs.set n d)) Γ4[j]? Γ4 j))
    (hq : ∀ v, assign (.Subscript o i spos) X.env v = (do
      let ov ← holding [v] (eval o X.env)
      let iv ← holding [v, ov] (eval i X.env)
      standAt spos
      holding [v, ov, iv] (setItem ov iv v)
      release [v, ov, iv] []) := by intro _; rfl)
    (hs : swapsWithSole [.Subscript o i spos] e pos.line X.env = pure false := by rfl) (hw : swappedStores [.Subscript o i spos] e X.env = pure none := by rfl) : SW X Z Γ (.Assign [.Subscript o i spos] e pos) P := by
  let N4 : D → Nat → Rv → List Sl → Prop := fun d j ri Γ4 => ∃ xs k n, Owns Γ4 j (.lst xs) ∧ view Γ4 ri = some (.int k) ∧ ixN xs.length k = some n ∧ P.nx (updS (.lst (xs.set n d)) Γ4[j]? Γ4 j)
  let N3 : D → Rv → List Sl → Prop := fun d ro Γ3 => ∃ j, ro = .own j ∧ EW X Z Γ3 i (N4 d j)
  have ho : PE X o (fun σ H Q => ∃ y : D × List Sl, EW X Z y.2 o (N3 y.1) ∧ tOf X.K Z y.2 (N3 y.1) σ H Q) := pe_ex fun _ hi => hi
  have hi : PE X i (fun σ H Q => ∃ y : D × Nat × List Sl, EW X Z y.2.2 i (N4 y.1 y.2.1) ∧ tOf X.K Z y.2.2 (N4 y.1 y.2.1) σ H Q) := pe_ex fun _ hi => hi
  refine ps_imp (ps_asg h (pg_sub ho hi set_list hq) hs hw) fun D σ H ⟨M, A, k1, k2, k3, k4⟩ => ?_
  refine ⟨M, A, fun re v Γ1 M1 H1 n1 A1 T1 q1 => ?_⟩
  obtain ⟨M2, d, Γ2, A2, T2, q2, n2⟩ := A1.im (k := fun d Γ2 => EW X Z Γ2 o (N3 d)) q1 n1
  refine ⟨(d, Γ2), n2, M2, A2, fun ro vo Γ3 M3 H3 ⟨j, ej, n3⟩ A3 T3 q3 => ?_⟩
  subst ej
  refine ⟨(d, j, Γ3), n3, M3, A3, fun ri vi Γ4 M4 H4 ⟨xs, kk, n, ow, vw, hn, nx⟩ A4 T4 q4 => ?_⟩
  have q3' : σ[j]? = some (some vo) := q3
  obtain ⟨ad, ob, ea, ma, hoa, r, _⟩ := A4.owns ow q3'
  subst ea
  cases r with
  | lst r =>
    have qd : Rep X.K (Hd (Un M4 Z.B) H4) v d := Rep.mono (T3.trans T4).s q2
    obtain ⟨A5, T5⟩ := A4.mutate ow q3' (HRep.lst (r.set qd n))
    exact ⟨ad, _, kk, n, rfl, Rep1.int_inv (A4.view q4 vw), hoa, by rw [r.length]; exact hn, k1 _ _ _ _ nx A5 ((((T1.trans T2).trans T3).trans T4).trans T5)⟩
/-- a method that changes the slot's own object -/
def MtOp (K : PySem.W.Frag) (r : V → List V → Hp → VK → Prop) (d : D) (ds : List D) (d' res : D) : Prop := ∀ H Hs a o xs Q, Ext Hs H → Hs a = none → H a = some o → HRep K Hs o d → Reps K Hs xs ds → (∀ o' z, HRep K Hs o' d' → Rep K Hs z res → Q z (upd H a o')) → r (.ref a) xs H Q
variable {name : Str} {apos cpos : Pos} {T id : String} {r : V → List V → Hp → VK → Prop}
theorem mt_run {K : PySem.W.Frag} {M : Addr → Prop} {σ : L2.St} {H : Hp} (A : As K Z M Γ σ H) {j : Nat} {d d' res : D} {ds : List D} (ow : Owns Γ j d) (hop : MtOp K r d ds d' res) {vo : V} (hv : σ[j]? = some (some vo)) {vs : List V} (hr : Reps K (Hd (Un M Z.B) H) vs ds)
    (hn : N (.d res) (updS d' Γ[j]? Γ j)) {Q : VK} (k : ∀ r v Γ' M' H', N r Γ' → As K Z M' Γ' σ H' → Tr Z M H M' H' → RvRel K Z M' Γ' σ H' v r → Q v H') : r vo vs H Q := by
  obtain ⟨ad, ob, ea, ma, hoa, rr, _⟩ := A.owns ow hv
  subst ea
  refine hop H _ ad ob vs Q Hd_ext ?_ hoa rr hr fun o' z ho' hz => ?_
  · cases e : Hd (Un M Z.B) H ad with
    | none => rfl
    | some u => exact absurd (.inl ma) (Hd_some.mp e).1
  · obtain ⟨A5, T5⟩ := A.mutate ow hv ho'
    exact k _ z _ M _ hn A5 T5 (Rep.mono T5.s hz)
theorem ew_bm (pa : PlainAttrs "list") (slot : Slot "list" name id) (hty : typeOf (.builtin id) = pure (.type "method_descriptor")) (hm : MtR X id r)
    (h : EW X Z Γ o fun ro Γ1 => ∃ j xs, ro = .own j ∧ Owns Γ1 j (.lst xs) ∧ AW X Z Γ1 (e :: es) fun rs Γ2 => Ims rs Γ2 fun ds Γ3 => ∃ d d' res, Owns Γ3 j d ∧ MtOp X.K r d ds d' res ∧ N (.d res) (updS d' Γ3[j]? Γ3 j))
    (hbase : attributeBase o name X.env (eval o X.env) = eval o X.env := by rfl)
    (hfew : ((backTo cpos (starEach (e :: es) X.env)).all (fun x => !x.1) && (backToKw cpos (keywordEach [] X.env)).all (fun x => x.1.isSome)
      && decide ((e :: es).length + ([] : List Keyword).length + (if ([] : List Keyword).isEmpty then 0 else 1) < 30)) = true := by rfl)
    (hline : (apos.endLine == cpos.line) = true := by rfl) (hs : starEach (e :: es) X.env = (false, eval e X.env) :: starEach es X.env := by rfl) (hplain : (backTo cpos (starEach es X.env)).any (·.1) = false := by rfl) :
    EW X Z Γ (.Call (.Attribute o name apos) (e :: es) [] cpos) N := by
  let N2 : Nat → List Rv → List Sl → Prop := fun j rs Γ2 => Ims rs Γ2 fun ds Γ3 => ∃ d d' res, Owns Γ3 j d ∧ MtOp X.K r d ds d' res ∧ N (.d res) (updS d' Γ3[j]? Γ3 j)
  have ha : PA X (e :: es) (fun σ H Q => ∃ y : Nat × List Sl, AW X Z y.2 (e :: es) (N2 y.1) ∧ taOf X.K Z y.2 (N2 y.1) σ H Q) := pa_ex fun _ hi => hi
  refine pe_imp (pe_bm pa slot hty hm h ha hbase hfew hline hs hplain) fun σ H Q ⟨M, A, k⟩ => ?_
  refine ⟨M, A, fun ro vo Γ1 M1 H1 ⟨j, xs, ej, ow, n1⟩ A1 T1 q1 => ?_⟩
  subst ej
  have q1' : σ[j]? = some (some vo) := q1
  obtain ⟨ad, ob, ea, ma, hoa, rr, _⟩ := A1.owns ow q1'
  subst ea
  cases rr with
  | lst rr =>
    refine ⟨.inl ⟨rfl, _, SqL.of hoa⟩, (j, Γ1), n1, M1, A1, fun rs vs Γ2 M2 H2 n2 nn A2 T2 q2 => ?_⟩
    obtain ⟨M3, ds, Γ3, A3, T3, q3, d, d', res, ow3, hop, hn⟩ := A2.ims q2 nn n2
    exact mt_run A3 ow3 hop q1' q3 hn fun r v Γ' M' H' n A' T' q => k r v Γ' M' H' n A' (((T1.trans T2).trans T3).trans T') q
theorem ew_bm0 (pa : PlainAttrs "list") (slot : Slot "list" name id) (hty : typeOf (.builtin id) = pure (.type "method_descriptor")) (hm : MtR X id r)
    (h : EW X Z Γ o fun ro Γ1 => ∃ j xs d' res, ro = .own j ∧ Owns Γ1 j (.lst xs) ∧ MtOp X.K r (.lst xs) [] d' res ∧ N (.d res) (updS d' Γ1[j]? Γ1 j))
    (hbase : attributeBase o name X.env (eval o X.env) = eval o X.env := by rfl) (hline : (apos.endLine == cpos.line) = true := by rfl) : EW X Z Γ (.Call (.Attribute o name apos) [] [] cpos) N := by
  refine pe_imp (pe_bm0 pa slot hty hm h hbase hline) fun σ H Q ⟨M, A, k⟩ => ?_
  refine ⟨M, A, fun ro vo Γ1 M1 H1 ⟨j, xs, d', res, ej, ow, hop, hn⟩ A1 T1 q1 => ?_⟩
  subst ej
  have q1' : σ[j]? = some (some vo) := q1
  obtain ⟨ad, ob, ea, ma, hoa, rr, _⟩ := A1.owns ow q1'
  subst ea
  cases rr with
  | lst rr =>
    refine ⟨.inl ⟨rfl, _, SqL.of hoa⟩, ?_⟩
    exact mt_run A1 ow hop q1' .nil hn fun r v Γ' M' H' n A' T' q => k r v Γ' M' H' n A' (T1.trans T') q
theorem mo_append {K : PySem.W.Frag} {xs : List D} {d : D} (hl : xs.length < 100000) : MtOp K rAppend (.lst xs) [d] (.lst (xs ++ [d])) .non := by
  intro H Hs a o vs Q x hn ho hr ha q
  cases hr with
  | lst r =>
    cases ha with
    | cons h1 h2 =>
      cases h2
      exact ⟨a, _, _, rfl, rfl, ho, by rw [r.length, sizeLine_eq]; omega, q _ _ (.lst (r.append (.cons h1 .nil))) .non⟩
theorem mo_clear {K : PySem.W.Frag} {xs : List D} : MtOp K rClear (.lst xs) [] (.lst []) .non := by
  intro H Hs a o vs Q x hn ho hr ha q
  cases hr with
  | lst r => cases ha; exact ⟨a, _, rfl, rfl, ho, q _ _ (.lst .nil) .non⟩
theorem mo_reverse {K : PySem.W.Frag} {xs : List D} : MtOp K rReverse (.lst xs) [] (.lst xs.reverse) .non := by
  intro H Hs a o vs Q x hn ho hr ha q
  cases hr with
  | lst r => cases ha; exact ⟨a, _, rfl, rfl, ho, q _ _ (.lst r.reverse) .non⟩
theorem mo_pop {K : PySem.W.Frag} {xs : List D} {d : D} (hd : xs[xs.length - 1]? = some d) : MtOp K rPop (.lst xs) [] (.lst xs.dropLast) d := by
  intro H Hs a o vs Q x hn ho hr ha q
  cases hr with
  | lst r =>
    cases ha
    obtain ⟨v, h1, h2⟩ := r.get hd
    exact ⟨a, _, v, rfl, rfl, ho, by rw [r.length]; exact h1, q _ _ (.lst r.dropLast) h2⟩
theorem mo_extend {K : PySem.W.Frag} {xs ys : List D} (hl : xs.length + ys.length ≤ 100000) : MtOp K rExtend (.lst xs) [.lst ys] (.lst (xs ++ ys)) .non := by
  intro H Hs a o vs Q x hn ho hr ha q
  cases hr with
  | lst r =>
    cases ha with
    | cons h1 h2 =>
      cases h2
      obtain ⟨b, ws, e, hb, rb⟩ := h1.lst_inv
      subst e
      exact ⟨a, b, _, _, rfl, rfl, ho, x _ _ hb, by rw [r.length, rb.length, sizeLine_eq]; omega, q _ _ (.lst (r.append rb)) .non⟩
/-! ### operations over data -/
variable {K : PySem.W.Frag}
theorem o2_I0 {g : Int → Int → V} {G : Int → Int → D} (hg : ∀ i j Hs, Rep K Hs (g i j) (G i j)) {i j : Int} : Op2 K (rI0 g) (.int i) (.int j) (.sc (G i j)) := fun H Hs x u v Q h1 h2 q => ⟨i, j, h1.int_inv, h2.int_inv, q _ _ (.inl ⟨rfl, hg i j Hs⟩)⟩
theorem o2_I {C : Int → Int → Prop} {g : Int → Int → V} {G : Int → Int → D} (hg : ∀ i j Hs, Rep K Hs (g i j) (G i j)) {i j : Int} (hc : C i j) : Op2 K (rI C g) (.int i) (.int j) (.sc (G i j)) := fun H Hs x u v Q h1 h2 q => ⟨i, j, h1.int_inv, h2.int_inv, hc, q _ _ (.inl ⟨rfl, hg i j Hs⟩)⟩
theorem o2_add {i j : Int} : Op2 K (rI0 fun i j => .int (i + j)) (.int i) (.int j) (.sc (.int (i + j))) := o2_I0 (G := fun i j => .int (i + j)) fun _ _ _ => .int _
theorem o2_sub {i j : Int} : Op2 K (rI0 fun i j => .int (i - j)) (.int i) (.int j) (.sc (.int (i - j))) := o2_I0 (G := fun i j => .int (i - j)) fun _ _ _ => .int _
theorem o2_and {i j : Int} : Op2 K (rI0 fun i j => .int (Builtin.bitAnd i j)) (.int i) (.int j) (.sc (.int (Builtin.bitAnd i j))) := o2_I0 (G := fun i j => .int (Builtin.bitAnd i j)) fun _ _ _ => .int _
theorem o2_or {i j : Int} : Op2 K (rI0 fun i j => .int (Builtin.bitOr i j)) (.int i) (.int j) (.sc (.int (Builtin.bitOr i j))) := o2_I0 (G := fun i j => .int (Builtin.bitOr i j)) fun _ _ _ => .int _
theorem o2_xor {i j : Int} : Op2 K (rI0 fun i j => .int (Builtin.bitXor i j)) (.int i) (.int j) (.sc (.int (Builtin.bitXor i j))) := o2_I0 (G := fun i j => .int (Builtin.bitXor i j)) fun _ _ _ => .int _
theorem o2_lt {i j : Int} : Op2 K (rI0 fun i j => .bl (decide (i < j))) (.int i) (.int j) (.sc (.bl (decide (i < j)))) := o2_I0 (G := fun i j => .bl (decide (i < j))) fun _ _ _ => .bl _
theorem o2_le {i j : Int} : Op2 K (rI0 fun i j => .bl (decide (i ≤ j))) (.int i) (.int j) (.sc (.bl (decide (i ≤ j)))) := o2_I0 (G := fun i j => .bl (decide (i ≤ j))) fun _ _ _ => .bl _
theorem o2_gt {i j : Int} : Op2 K (rI0 fun i j => .bl (decide (j < i))) (.int i) (.int j) (.sc (.bl (decide (j < i)))) := o2_I0 (G := fun i j => .bl (decide (j < i))) fun _ _ _ => .bl _
theorem o2_ge {i j : Int} : Op2 K (rI0 fun i j => .bl (decide (j ≤ i))) (.int i) (.int j) (.sc (.bl (decide (j ≤ i)))) := o2_I0 (G := fun i j => .bl (decide (j ≤ i))) fun _ _ _ => .bl _
theorem o2_mul {i j : Int} (hc : CMul i j) : Op2 K (rI CMul fun i j => .int (i * j)) (.int i) (.int j) (.sc (.int (i * j))) := o2_I (G := fun i j => .int (i * j)) (fun _ _ _ => .int _) hc
theorem o2_mod {i j : Int} (hc : 0 < j) : Op2 K (rI (fun _ j => 0 < j) fun i j => .int (i % j)) (.int i) (.int j) (.sc (.int (i % j))) := o2_I (C := fun _ j => 0 < j) (G := fun i j => .int (i % j)) (fun _ _ _ => .int _) hc
theorem o2_fdiv {i j : Int} (hc : CDiv i j) : Op2 K (rI CDiv fun i j => .int (i / j)) (.int i) (.int j) (.sc (.int (i / j))) := o2_I (G := fun i j => .int (i / j)) (fun _ _ _ => .int _) hc
theorem o2_pow {i j : Int} (hc : CPow i j) : Op2 K (rI CPow fun i j => .int (i ^ j.toNat)) (.int i) (.int j) (.sc (.int (i ^ j.toNat))) := o2_I (G := fun i j => .int (i ^ j.toNat)) (fun _ _ _ => .int _) hc
theorem o2_shl {i j : Int} (hc : CPow i j) : Op2 K (rI CPow fun i j => .int (i * 2 ^ j.toNat)) (.int i) (.int j) (.sc (.int (i * 2 ^ j.toNat))) := o2_I (G := fun i j => .int (i * 2 ^ j.toNat)) (fun _ _ _ => .int _) hc
theorem o2_shr {i j : Int} (hc : 0 ≤ j) : Op2 K (rI (fun _ j => 0 ≤ j) fun i j => .int (i / 2 ^ j.toNat)) (.int i) (.int j) (.sc (.int (i / 2 ^ j.toNat))) := o2_I (C := fun _ j => 0 ≤ j) (G := fun i j => .int (i / 2 ^ j.toNat)) (fun _ _ _ => .int _) hc
theorem o1_neg {i : Int} : Op1 K (rU fun i => .int (-i)) (.int i) (.sc (.int (-i))) := fun H Hs x u Q h q => ⟨i, h.int_inv, q _ _ (.inl ⟨rfl, .int _⟩)⟩
/-- scalars -/
def D.sca : D → Option V
  | .non => some .non
  | .bl b => some (.bl b)
  | .int i => some (.int i)
  | .str s => some (.str s)
  | _ => none
theorem sca_inv {H Hs : Hp} {v u : V} {d : D} (h : Rep1 K H Hs v d) (hd : d.sca = some u) : v = u := by
  cases d <;> first | (cases hd; first | exact h.non_inv | exact h.bl_inv | exact h.int_inv | exact h.str_inv) | cases hd
theorem o2_eq {d1 d2 : D} {u1 u2 : V} (h1 : d1.sca = some u1) (h2 : d2.sca = some u2) (hs : scal u1 u2 = true) : Op2 K rEq d1 d2 (.sc (.bl (decide (u1 = u2)))) := fun H Hs x u v Q r1 r2 q => by
  rw [sca_inv r1 h1, sca_inv r2 h2]
  exact ⟨hs, q _ _ (.inl ⟨rfl, .bl _⟩)⟩
theorem o2_ne {d1 d2 : D} {u1 u2 : V} (h1 : d1.sca = some u1) (h2 : d2.sca = some u2) (hs : scal u1 u2 = true) : Op2 K rNe d1 d2 (.sc (.bl (!decide (u1 = u2)))) := fun H Hs x u v Q r1 r2 q => by
  rw [sca_inv r1 h1, sca_inv r2 h2]
  exact ⟨hs, q _ _ (.inl ⟨rfl, .bl _⟩)⟩
theorem dec_bl {p q : Prop} [Decidable p] [Decidable q] (h : p ↔ q) : decide p = decide q := by
  by_cases hp : p
  · rw [decide_eq_true hp, decide_eq_true (h.mp hp)]
  · rw [decide_eq_false hp, decide_eq_false fun z => hp (h.mpr z)]
theorem o2_eqI {i j : Int} : Op2 K rEq (.int i) (.int j) (.sc (.bl (decide (i = j)))) := by
  have := o2_eq (K := K) (d1 := .int i) (d2 := .int j) rfl rfl rfl
  rwa [show decide (V.int i = V.int j) = decide (i = j) from dec_bl ⟨fun h => V.int.inj h, fun h => by rw [h]⟩] at this
theorem o2_neI {i j : Int} : Op2 K rNe (.int i) (.int j) (.sc (.bl (decide (i ≠ j)))) := by
  have := o2_ne (K := K) (d1 := .int i) (d2 := .int j) rfl rfl rfl
  rw [show decide (V.int i = V.int j) = decide (i = j) from dec_bl ⟨fun h => V.int.inj h, fun h => by rw [h]⟩] at this
  rwa [show decide (i ≠ j) = !decide (i = j) from by by_cases h : i = j <;> simp [h]]
theorem o2_eqB {i j : Bool} : Op2 K rEq (.bl i) (.bl j) (.sc (.bl (decide (i = j)))) := by
  have := o2_eq (K := K) (d1 := .bl i) (d2 := .bl j) rfl rfl rfl
  rwa [show decide (V.bl i = V.bl j) = decide (i = j) from dec_bl ⟨fun h => V.bl.inj h, fun h => by rw [h]⟩] at this
theorem o2_neB {i j : Bool} : Op2 K rNe (.bl i) (.bl j) (.sc (.bl (decide (i ≠ j)))) := by
  have := o2_ne (K := K) (d1 := .bl i) (d2 := .bl j) rfl rfl rfl
  rw [show decide (V.bl i = V.bl j) = decide (i = j) from dec_bl ⟨fun h => V.bl.inj h, fun h => by rw [h]⟩] at this
  rwa [show decide (i ≠ j) = !decide (i = j) from by by_cases h : i = j <;> simp [h]]
theorem o2_eqS {i j : Str} : Op2 K rEq (.str i) (.str j) (.sc (.bl (decide (i = j)))) := by
  have := o2_eq (K := K) (d1 := .str i) (d2 := .str j) rfl rfl rfl
  rwa [show decide (V.str i = V.str j) = decide (i = j) from dec_bl ⟨fun h => V.str.inj h, fun h => by rw [h]⟩] at this
theorem o2_neS {i j : Str} : Op2 K rNe (.str i) (.str j) (.sc (.bl (decide (i ≠ j)))) := by
  have := o2_ne (K := K) (d1 := .str i) (d2 := .str j) rfl rfl rfl
  rw [show decide (V.str i = V.str j) = decide (i = j) from dec_bl ⟨fun h => V.str.inj h, fun h => by rw [h]⟩] at this
  rwa [show decide (i ≠ j) = !decide (i = j) from by by_cases h : i = j <;> simp [h]]
/-- atI over data -/
theorem Reps.atI {Hs : Hp} {vs : List V} {ds : List D} {i : Int} {d : D} (r : Reps K Hs vs ds) (h : L2.atI ds i = some d) : ∃ v, L2.atI vs i = some v ∧ Rep K Hs v d := by
  unfold L2.atI at h ⊢
  rw [r.length]
  cases e : ixN ds.length i with
  | none => rw [e] at h; cases h
  | some j =>
    rw [e] at h
    exact r.get h
theorem o2_ixL {xs : List D} {i : Int} {d : D} (h : atI xs i = some d) : Op2 K (rIx K) (.lst xs) (.int i) (.sc d) := fun H Hs x u v Q r1 r2 q => by
  obtain ⟨a, vs, e, hs, r⟩ := r1.lst_inv x
  obtain ⟨w, h1, h2⟩ := r.atI h
  exact .inl ⟨a, vs, i, w, e, r2.int_inv, SqL.of hs, h1, q _ _ (.inl ⟨rfl, h2⟩)⟩
theorem o2_ixC {xs : List D} {i : Int} {d : D} (h : atI xs i = some d) : Op2 K (rIx K) (.scr xs) (.int i) (.sc d) := fun H Hs x u v Q r1 r2 q => by
  obtain ⟨a, vs, e, hs, r⟩ := r1.scr_inv x
  obtain ⟨w, h1, h2⟩ := r.atI h
  exact .inl ⟨a, vs, i, w, e, r2.int_inv, hs, h1, q _ _ (.inl ⟨rfl, h2⟩)⟩
theorem o2_ixT {xs : List D} {i : Int} {d : D} (h : atI xs i = some d) : Op2 K (rIx K) (.tup xs) (.int i) (.sc d) := fun H Hs x u v Q r1 r2 q => by
  obtain ⟨a, vs, e, hs, r⟩ := r1.tup_inv x
  obtain ⟨w, h1, h2⟩ := r.atI h
  exact .inr (.inl ⟨a, vs, i, w, e, r2.int_inv, hs, h1, q _ _ (.inl ⟨rfl, h2⟩)⟩)
/-! built-ins by data -/
theorem Reps1.one {H Hs : Hp} {vs : List V} {d : D} (h : Reps1 K H Hs vs [d]) : ∃ v, vs = [v] ∧ Rep1 K H Hs v d := by
  cases h with | cons a b => cases b; exact ⟨_, rfl, a⟩
theorem Reps1.two {H Hs : Hp} {vs : List V} {d e : D} (h : Reps1 K H Hs vs [d, e]) : ∃ v w, vs = [v, w] ∧ Rep1 K H Hs v d ∧ Rep1 K H Hs w e := by
  cases h with | cons a b => cases b with | cons c d => cases d; exact ⟨_, _, rfl, a, c⟩
abbrev rLenS (K : PySem.W.Frag) : List V → Hp → VK → Prop := fun xs H Q => ∃ p ys, xs = [.ref p] ∧ (SqL K H p ys ∨ SqT K H p ys) ∧ Q (.int ys.length) H
theorem on_lenL {xs : List D} : OpN K (rLenS K) [.lst xs] (.sc (.int xs.length)) := fun H Hs x vs Q r q => by
  obtain ⟨v, e, r⟩ := r.one
  obtain ⟨a, ws, e2, hs, rr⟩ := r.lst_inv x
  subst e; subst e2
  refine ⟨a, ws, rfl, .inl (SqL.of hs), ?_⟩
  rw [rr.length]; exact q _ _ (.inl ⟨rfl, .int _⟩)
theorem on_lenC {xs : List D} : OpN K (rLenS K) [.scr xs] (.sc (.int xs.length)) := fun H Hs x vs Q r q => by
  obtain ⟨v, e, r⟩ := r.one
  obtain ⟨a, ws, e2, hs, rr⟩ := r.scr_inv x
  subst e; subst e2
  refine ⟨a, ws, rfl, .inl hs, ?_⟩
  rw [rr.length]; exact q _ _ (.inl ⟨rfl, .int _⟩)
theorem on_lenT {xs : List D} : OpN K (rLenS K) [.tup xs] (.sc (.int xs.length)) := fun H Hs x vs Q r q => by
  obtain ⟨v, e, r⟩ := r.one
  obtain ⟨a, ws, e2, hs, rr⟩ := r.tup_inv x
  subst e; subst e2
  refine ⟨a, ws, rfl, .inr hs, ?_⟩
  rw [rr.length]; exact q _ _ (.inl ⟨rfl, .int _⟩)
abbrev rAbs : List V → Hp → VK → Prop := fun xs H Q => ∃ i, xs = [.int i] ∧ Q (.int (if i < 0 then -i else i)) H
theorem on_abs {i : Int} : OpN K rAbs [.int i] (.sc (.int (if i < 0 then -i else i))) := fun H Hs x vs Q r q => by
  obtain ⟨v, e, r⟩ := r.one
  exact ⟨i, by rw [e, r.int_inv], q _ _ (.inl ⟨rfl, .int _⟩)⟩
abbrev rInt1 : List V → Hp → VK → Prop := fun xs H Q => (∃ i, xs = [.int i] ∧ Q (.int i) H) ∨ ∃ k, xs = [.bl k] ∧ Q (.int (if k then 1 else 0)) H
theorem on_int {i : Int} : OpN K rInt1 [.int i] (.sc (.int i)) := fun H Hs x vs Q r q => by
  obtain ⟨v, e, r⟩ := r.one
  exact .inl ⟨i, by rw [e, r.int_inv], q _ _ (.inl ⟨rfl, .int _⟩)⟩
theorem on_intB {i : Bool} : OpN K rInt1 [.bl i] (.sc (.int (if i then 1 else 0))) := fun H Hs x vs Q r q => by
  obtain ⟨v, e, r⟩ := r.one
  exact .inr ⟨i, by rw [e, r.bl_inv], q _ _ (.inl ⟨rfl, .int _⟩)⟩
abbrev rBool1 : List V → Hp → VK → Prop := fun xs H Q => (∃ i, xs = [.int i] ∧ Q (.bl (i != 0)) H) ∨ ∃ k, xs = [.bl k] ∧ Q (.bl k) H
abbrev rMax2 : List V → Hp → VK → Prop := fun xs H Q => ∃ i j, xs = [.int i, .int j] ∧ Q (.int (if j > i then j else i)) H
abbrev rMin2 : List V → Hp → VK → Prop := fun xs H Q => ∃ i j, xs = [.int i, .int j] ∧ Q (.int (if j < i then j else i)) H
theorem on_max2 {i j : Int} : OpN K rMax2 [.int i, .int j] (.sc (.int (max i j))) := fun H Hs x vs Q r q => by
  obtain ⟨v, w, e, r1, r2⟩ := r.two
  refine ⟨i, j, by rw [e, r1.int_inv, r2.int_inv], ?_⟩
  rw [show (if j > i then j else i) = max i j by omega]
  exact q _ _ (.inl ⟨rfl, .int _⟩)
theorem on_min2 {i j : Int} : OpN K rMin2 [.int i, .int j] (.sc (.int (min i j))) := fun H Hs x vs Q r q => by
  obtain ⟨v, w, e, r1, r2⟩ := r.two
  refine ⟨i, j, by rw [e, r1.int_inv, r2.int_inv], ?_⟩
  rw [show (if j < i then j else i) = min i j by omega]
  exact q _ _ (.inl ⟨rfl, .int _⟩)
abbrev rListOf (K : PySem.W.Frag) : List V → Hp → VK → Prop := fun xs H Q => ∃ p ys, xs = [.ref p] ∧ (SqL K H p ys ∨ SqT K H p ys) ∧ ∀ l, H l = none → Q (.ref l) (upd H l (.lst ys))
theorem on_listL {xs : List D} : OpN K (rListOf K) [.lst xs] (.nw (.lst xs)) := fun H Hs x vs Q r q => by
  obtain ⟨v, e, r⟩ := r.one
  obtain ⟨a, ws, e2, hs, rr⟩ := r.lst_inv x
  subst e; subst e2
  exact ⟨a, ws, rfl, .inl (SqL.of hs), fun l hl => q _ _ ⟨l, _, rfl, hl, rfl, .lst rr⟩⟩
theorem on_listT {xs : List D} : OpN K (rListOf K) [.tup xs] (.nw (.lst xs)) := fun H Hs x vs Q r q => by
  obtain ⟨v, e, r⟩ := r.one
  obtain ⟨a, ws, e2, hs, rr⟩ := r.tup_inv x
  subst e; subst e2
  exact ⟨a, ws, rfl, .inr hs, fun l hl => q _ _ ⟨l, _, rfl, hl, rfl, .lst rr⟩⟩
abbrev rTupleOf (K : PySem.W.Frag) : List V → Hp → VK → Prop := fun xs H Q => ∃ p ys, xs = [.ref p] ∧ ((SqL K H p ys ∧ ∀ l, H l = none → Q (.ref l) (upd H l (.tup ys))) ∨ (SqT K H p ys ∧ Q (.ref p) H))
theorem on_tupleL {xs : List D} : OpN K (rTupleOf K) [.lst xs] (.sc (.tup xs)) := fun H Hs x vs Q r q => by
  obtain ⟨v, e, r⟩ := r.one
  obtain ⟨a, ws, e2, hs, rr⟩ := r.lst_inv x
  subst e; subst e2
  exact ⟨a, ws, rfl, .inl ⟨SqL.of hs, fun l hl => q _ _ (.inr ⟨l, _, rfl, hl, rfl, .tup rr⟩)⟩⟩
end
end Lw

namespace Lw
open PySem L2 PyProof.Rows
section
variable {X : Cx} {Z : Zc} {Γ : List Sl} {N : Rv → List Sl → Prop} {a b c e o i : Expr} {es : List Expr} {pos apos : Pos} {P : Po} {f : Str}
/-! ### fields -/
theorem ew_fld (h : EW X Z Γ o fun r Γ1 => ∃ C gs d, view Γ1 r = some (.obj C gs) ∧ Cls X.K C ∧ NoAttr X.K C f ∧ gs.lookup f = some d ∧ N (.d d) Γ1) (hb : attributeBase o f X.env (eval o X.env) = eval o X.env := by rfl) : EW X Z Γ (.Attribute o f pos) N := by
  refine pe_imp (pe_fld h hb) fun σ H Q ⟨M, A, k⟩ => ?_
  refine ⟨M, A, fun r v Γ1 M1 H1 ⟨C, gs, d, w, cl, na, hl, n⟩ A1 T1 q1 => ?_⟩
  obtain ⟨ad, dx, fs, ev, ho, rf⟩ := Rep1.obj_inv A1.ext (A1.view q1 w)
  obtain ⟨u, hu, ru⟩ := rf.lookup hl
  exact ⟨ad, C, dx, fs, u, ev, ho, cl, na, hu, k _ _ _ _ _ n A1 T1 ru⟩
theorem sw_fld {tpos : Pos} (h : EW X Z Γ e fun re Γ1 => Im re Γ1 fun d Γ2 => EW X Z Γ2 o fun ro Γ3 => ∃ j C gs, ro = .own j ∧ Owns Γ3 j (.obj C gs) ∧ Cls X.K C ∧ NoAttr X.K C f ∧ gs.length < 1000 ∧ P.nx (updS (.obj C (putD f d gs)) Γ3[j]? Γ3 j))
    (hs : swapsWith e (some (.Attribute o f tpos)) pos.line X.env = pure false := by rfl) : SW X Z Γ (.Assign [.Attribute o f tpos] e pos) P := by
  let N3 : D → Rv → List Sl → Prop := fun d ro Γ3 => ∃ j C gs, ro = .own j ∧ Owns Γ3 j (.obj C gs) ∧ Cls X.K C ∧ NoAttr X.K C f ∧ gs.length < 1000 ∧ P.nx (updS (.obj C (putD f d gs)) Γ3[j]? Γ3 j)
  have ho : PE X o (fun σ H Q => ∃ y : D × List Sl, EW X Z y.2 o (N3 y.1) ∧ tOf X.K Z y.2 (N3 y.1) σ H Q) := pe_ex fun _ hi => hi
  refine ps_imp (ps_fld ho h hs) fun D σ H ⟨M, A, k1, k2, k3, k4⟩ => ?_
  refine ⟨M, A, fun re v Γ1 M1 H1 n1 A1 T1 q1 => ?_⟩
  obtain ⟨M2, d, Γ2, A2, T2, q2, n2⟩ := A1.im (k := fun d Γ2 => EW X Z Γ2 o (N3 d)) q1 n1
  refine ⟨(d, Γ2), n2, M2, A2, fun ro vo Γ3 M3 H3 ⟨j, C, gs, ej, ow, cl, na, hl, nx⟩ A3 T3 q3 => ?_⟩
  subst ej
  have q3' : σ[j]? = some (some vo) := q3
  obtain ⟨ad, ob, ea, ma, hoa, r, _⟩ := A3.owns ow q3'
  subst ea
  cases r with
  | ins r =>
    have qd : Rep X.K (Hd (Un M3 Z.B) H3) v d := Rep.mono T3.s q2
    obtain ⟨A5, T5⟩ := A3.mutate ow q3' (HRep.ins (r.put qd))
    exact ⟨ad, C, _, _, rfl, hoa, cl, na, by rw [r.length]; exact hl, k1 _ _ _ _ nx A5 (((T1.trans T2).trans T3).trans T5)⟩
/-! ### methods of own instances -/
/-- a method of the class at C -/
structure Mtd (P : Program) (w : World) (K : PySem.W.Frag) (mg : Str → Option Value) (base : Heap) (C : Addr) (m : Str) (k : Nat) {α : Type} (c : Ct α) : Prop where
  ex : ∃ (f : Addr) (fd : FuncData) (ps : List Str), FnOk P w K mg base (L2.CX P w) k f fd ps (spC K c) ∧ Cls K C ∧ Meth K C m f ∧ Binds K fd ps []
variable {m : Str} {kk : Nat} {α : Type} {ct : Ct α} {Ex : XEx} {C : Addr}
theorem pe_methC {ff : Addr} {fd : FuncData} {ps : List Str} {sp : Sp} {E : L2.St → XK} {ta : TE} {t : TA} {pl : Sem Bool} (he : PE X o ta) (cl : Cls X.K C) (hm : Meth X.K C m ff) (F : FnOk X.prog X.w X.K X.mg X.base (L2.CX X.prog X.w) kk ff fd ps sp) (hr : Room kk X.A) (hb : Binds X.K fd ps []) (hx : ∀ σ, PassesAt (L2.CX X.prog X.w) X σ (E σ)) (ha : PA X (e :: es) t)
    (hst : starEach (e :: es) X.env = (false, eval e X.env) :: starEach es X.env) (hpl : (backTo pos (starEach es X.env)).any (·.1) = false)
    (ht : eval (.Call (.Attribute o m apos) (e :: es) [] pos) X.env = (do
      let ov ← eval o X.env
      standAt apos.atName
      let (f, first) ← holding [ov] (getMethod ov m pl)
      callWith pos f first (backTo pos (starEach (e :: es) X.env)) (backToKw pos (keywordEach [] X.env)))) :
    PE X (.Call (.Attribute o m apos) (e :: es) [] pos) (fun σ H Q => ta σ H fun x H1 => ∃ a dx fs, x = .ref a ∧ H1 a = some (.ins C dx fs) ∧ fs.lookup m = none ∧ t σ H1 fun vs H2 => sp (x :: vs) H2 Q (E σ)) :=
  ⟨fun pins s σ H Q I h => by
    refine PySem.W.methodCall_KW (pl := pl) (thn (he.run pins s σ H _ I h) fun u s1 ⟨x, H1, I1, rx, a, dx, fs, ex, ea, l, q⟩ => ?_) ht
    subst ex
    obtain rfl : u = Value.ref a := rx
    exact getmeth_ok I1 ea cl hm l (PySem.W.callWith_K (first := [.ref a]) (h₀ := X.base) I.ok.mod.kin hm.kp (thn (ha.run pos pins s1 σ H1 _ I1 q) fun us s2 ⟨vs, H2, I2, r, q2⟩ => ⟨I2.kIn,
      run_fnSD (us := .ref a :: us) (vs := .ref a :: vs) (dvs := []) (ds := []) F hr hb .nil (hx σ) I2 (.cons rfl r) (by rw [List.append_nil]; exact q2)⟩) hst hpl)⟩
theorem pe_methC0 {ff : Addr} {fd : FuncData} {ps : List Str} {sp : Sp} {E : L2.St → XK} {ta : TE} {pl : Sem Bool} (he : PE X o ta) (cl : Cls X.K C) (hm : Meth X.K C m ff) (F : FnOk X.prog X.w X.K X.mg X.base (L2.CX X.prog X.w) kk ff fd ps sp) (hr : Room kk X.A) (hb : Binds X.K fd ps []) (hx : ∀ σ, PassesAt (L2.CX X.prog X.w) X σ (E σ))
    (ht : eval (.Call (.Attribute o m apos) [] [] pos) X.env = (do
      let ov ← eval o X.env
      standAt apos.atName
      let (f, first) ← holding [ov] (getMethod ov m pl)
      callWith pos f first (backTo pos (starEach [] X.env)) (backToKw pos (keywordEach [] X.env)))) :
    PE X (.Call (.Attribute o m apos) [] [] pos) (fun σ H Q => ta σ H fun x H1 => ∃ a dx fs, x = .ref a ∧ H1 a = some (.ins C dx fs) ∧ fs.lookup m = none ∧ sp [x] H1 Q (E σ)) :=
  ⟨fun pins s σ H Q I h => by
    refine PySem.W.methodCall_KW (pl := pl) (thn (he.run pins s σ H _ I h) fun u s1 ⟨x, H1, I1, rx, a, dx, fs, ex, ea, l, q⟩ => ?_) ht
    subst ex
    obtain rfl : u = Value.ref a := rx
    exact getmeth_ok I1 ea cl hm l (PySem.W.callWith_K0 (first := [.ref a]) I1.kIn hm.kp (run_fnSD (us := [.ref a]) (vs := [.ref a]) (dvs := []) (ds := []) F hr hb .nil (hx σ) I1 (.cons rfl .nil) (by simpa using q)))⟩
/-- the receiver's data has no field of the method's name -/
def noFld (m : Str) (Γ : List Sl) (r : Rv) (C : Addr) : Prop := ∃ gs, view Γ r = some (.obj C gs) ∧ gs.lookup m = none
theorem ew_meth (D : Mtd X.prog X.w X.K X.mg X.base C m kk ct) (hr : Room kk X.A) (tk : Takes X (wOf X.K Z Ex))
    (h : EW X Z Γ o fun r Γ1 => Fz r Γ1 fun r Γ1 => noFld m Γ1 r C ∧ AW X Z Γ1 (e :: es) fun rs Γ2 => CallPost ct Ex N (r :: rs) Γ2)
    (hst : starEach (e :: es) X.env = (false, eval e X.env) :: starEach es X.env := by rfl) (hpl : (backTo pos (starEach es X.env)).any (·.1) = false := by rfl) {pl : Sem Bool}
    (ht : eval (.Call (.Attribute o m apos) (e :: es) [] pos) X.env = (do
      let ov ← eval o X.env
      standAt apos.atName
      let (f, first) ← holding [ov] (getMethod ov m pl)
      callWith pos f first (backTo pos (starEach (e :: es) X.env)) (backToKw pos (keywordEach [] X.env))) := by rfl) : EW X Z Γ (.Call (.Attribute o m apos) (e :: es) [] pos) N := by
  obtain ⟨ff, fd, ps, F, cl, hm, hb⟩ := D.ex
  let N2 : Rv → List Rv → List Sl → Prop := fun r rs Γ2 => CallPost ct Ex N (r :: rs) Γ2
  have ha : PA X (e :: es) (fun σ H Q => ∃ y : Rv × List Sl, AW X Z y.2 (e :: es) (N2 y.1) ∧ taOf X.K Z y.2 (N2 y.1) σ H Q) := pa_ex fun _ hi => hi
  refine pe_imp (pe_methC h cl hm F hr hb (E := WE (wOf X.K Z Ex)) (fun σ => passAt tk σ) ha hst hpl ht) fun σ H Q ⟨M, A, k⟩ => ?_
  refine ⟨M, A, fun r v Γ1 M1 H1 n1 A1 T1 q1 => ?_⟩
  obtain ⟨M2, r', A2, T2, q2, nn, ⟨gs, w, hl⟩, n2⟩ := A1.fz' q1 n1
  obtain ⟨ad, dx, fs, ev, ho, rf⟩ := Rep1.obj_inv A2.ext (A2.view q2 w)
  refine ⟨ad, dx, fs, ev, ho, rf.none hl, (r', Γ1), n2, M2, A2, fun rs vs Γ2 M3 H3 n3 nn3 A3 T3 q3 => ?_⟩
  refine call_sp A3 (.cons (RvRel.tr (Γ' := Γ2) T3 q2 nn) q3) (fun x hx => ?_) n3 fun r v Γ' M' H' n A' T' q => k r v Γ' M' H' n A' (((T1.trans T2).trans T3).trans T') q
  rcases List.mem_cons.mp hx with e | hx
  · subst e; exact nn
  · exact nn3 x hx
theorem ew_meth0 (D : Mtd X.prog X.w X.K X.mg X.base C m kk ct) (hr : Room kk X.A) (tk : Takes X (wOf X.K Z Ex))
    (h : EW X Z Γ o fun r Γ1 => Fz r Γ1 fun r Γ1 => noFld m Γ1 r C ∧ CallPost ct Ex N [r] Γ1) {pl : Sem Bool}
    (ht : eval (.Call (.Attribute o m apos) [] [] pos) X.env = (do
      let ov ← eval o X.env
      standAt apos.atName
      let (f, first) ← holding [ov] (getMethod ov m pl)
      callWith pos f first (backTo pos (starEach [] X.env)) (backToKw pos (keywordEach [] X.env))) := by rfl) : EW X Z Γ (.Call (.Attribute o m apos) [] [] pos) N := by
  obtain ⟨ff, fd, ps, F, cl, hm, hb⟩ := D.ex
  refine pe_imp (pe_methC0 h cl hm F hr hb (E := WE (wOf X.K Z Ex)) (fun σ => passAt tk σ) ht) fun σ H Q ⟨M, A, k⟩ => ?_
  refine ⟨M, A, fun r v Γ1 M1 H1 n1 A1 T1 q1 => ?_⟩
  obtain ⟨M2, r', A2, T2, q2, nn, ⟨gs, w, hl⟩, n2⟩ := A1.fz' q1 n1
  obtain ⟨ad, dx, fs, ev, ho, rf⟩ := Rep1.obj_inv A2.ext (A2.view q2 w)
  refine ⟨ad, dx, fs, ev, ho, rf.none hl, ?_⟩
  refine call_sp A2 (.cons q2 .nil) (fun x hx => ?_) n2 fun r v Γ' M' H' n A' T' q => k r v Γ' M' H' n A' ((T1.trans T2).trans T') q
  rcases List.mem_cons.mp hx with e | hx
  · subst e; exact nn
  · cases hx
/-! ### what a loop walks -/
/-- the iterator J hands out item 0 .. n - 1, in every state behind (M1, H1) -/
def Wk (K : PySem.W.Frag) (Z : Zc) (M1 : Addr → Prop) (H1 : Hp) (J : It) (n : Nat) (item : Nat → D) : Prop := ∀ (k : Nat) M Γ σ H, As K Z M Γ σ H → Tr Z M1 H1 M H →
  (k < n → J.go k H ∧ ∀ x H', J.yld k H x H' → Ext H H' ∧ Rep K (Hd (Un M Z.B) H') x (item k)) ∧ (n ≤ k → J.stop k H)
abbrev Src := Nat → (Nat → D) → List Sl → Prop
def wiOf (K : PySem.W.Frag) (Z : Zc) (Γ : List Sl) (R : Src) : TI := fun σ H RR => ∃ M, As K Z M Γ σ H ∧ ∀ n item Γ1 M1 H1 J, R n item Γ1 → As K Z M1 Γ1 σ H1 → Tr Z M H M1 H1 → Wk K Z M1 H1 J n item → RR J H1
abbrev IW (X : Cx) (Z : Zc) (Γ : List Sl) (tg iter : Expr) (R : Src) : Prop := PI X tg iter (wiOf X.K Z Γ R)
theorem pi_imp {tg iter : Expr} {w w' : TI} (h : PI X tg iter w) (i : ∀ σ H R, w' σ H R → w σ H R) : PI X tg iter w' := ⟨fun pins s σ H R I q => h.run pins s σ H R I (i _ _ _ q)⟩
theorem ext_bo {K : PySem.W.Frag} {M : Addr → Prop} {H : Hp} : Ext (Hd (Un M Z.B) H) (Hd M H) := Hd_mono fun a o h n => ⟨fun q => n (.inl q), h⟩
/-- a list as it is walked: the value is no slot's own -/
def LstSrc (Γ : List Sl) (r : Rv) (ds : List D) : Prop := match r with
  | .d (.lst xs) => xs = ds
  | .bo (.lst xs) => xs = ds
  | _ => False
def TupSrc (r : Rv) (ds : List D) : Prop := match r with
  | .d (.tup xs) => xs = ds
  | .bo (.tup xs) => xs = ds
  | _ => False
theorem lst_src {K : PySem.W.Frag} {M : Addr → Prop} {σ : L2.St} {H : Hp} (A : As K Z M Γ σ H) {v : V} {r : Rv} {ds : List D} (q : RvRel K Z M Γ σ H v r) (hs : LstSrc Γ r ds) : ∃ a vs, v = .ref a ∧ (Hd M H) a = some (.lst vs) ∧ Reps K (Hd (Un M Z.B) H) vs ds := by
  cases r with
  | d d =>
    cases d <;> first | exact hs.elim | skip
    cases hs
    obtain ⟨a, vs, e, s, rr⟩ := Rep.lst_inv q
    exact ⟨a, vs, e, ext_bo (K := K) _ _ s, rr⟩
  | bo d =>
    cases d <;> first | exact hs.elim | skip
    cases hs
    obtain ⟨a, vs, e, s, rr⟩ := Rep1.lst_inv (ext_bo (K := K)) q
    exact ⟨a, vs, e, s, rr⟩
  | new d => exact hs.elim
  | own i => exact hs.elim
  | va i => exact hs.elim
theorem tup_src {K : PySem.W.Frag} {M : Addr → Prop} {σ : L2.St} {H : Hp} (A : As K Z M Γ σ H) {v : V} {r : Rv} {ds : List D} (q : RvRel K Z M Γ σ H v r) (hs : TupSrc r ds) : ∃ a vs, v = .ref a ∧ SqT K (Hd M H) a vs ∧ Reps K (Hd (Un M Z.B) H) vs ds := by
  cases r with
  | d d =>
    cases d <;> first | exact hs.elim | skip
    cases hs
    obtain ⟨a, vs, e, s, rr⟩ := Rep.tup_inv q
    exact ⟨a, vs, e, Ext.t (ext_bo (K := K)) s, rr⟩
  | bo d =>
    cases d <;> first | exact hs.elim | skip
    cases hs
    obtain ⟨a, vs, e, s, rr⟩ := Rep1.tup_inv (ext_bo (K := K)) q
    exact ⟨a, vs, e, s, rr⟩
  | new d => exact hs.elim
  | own i => exact hs.elim
  | va i => exact hs.elim
theorem item_of {K : PySem.W.Frag} {Hs : Hp} {vs : List V} {ds : List D} {k : Nat} {x : V} (rr : Reps K Hs vs ds) (h : vs[k]? = some x) : Rep K Hs x (ds.getD k .non) := by
  obtain ⟨d, h1, h2⟩ := rr.get' h
  rw [List.getD_eq_getElem?_getD, h1]; exact h2
theorem iw_lst {tg : Expr} {R : Src} (h : EW X Z Γ e fun r Γ1 => Fz r Γ1 fun r Γ1 => ∃ ds, LstSrc Γ1 r ds ∧ R ds.length (fun k => ds.getD k .non) Γ1) : IW X Z Γ tg e R := by
  refine pi_imp (pi_list h) fun σ H RR ⟨M, A, k⟩ => ?_
  refine ⟨M, A, fun r v Γ1 M1 H1 n1 A1 T1 q1 => ?_⟩
  obtain ⟨M2, r', A2, T2, q2, nn, ds, hs, n2⟩ := A1.fz' q1 n1
  obtain ⟨a, vs, ev, s, rr⟩ := lst_src A2 q2 hs
  refine ⟨a, ev, ⟨vs, SqL.of (Hd_ext _ _ s)⟩, k _ _ _ M2 H1 _ n2 A2 (T1.trans T2) fun j M Γ σ H A T => ⟨fun lt => ?_, fun le => ⟨vs, SqL.of (Hd_ext _ _ (T.b _ _ s)), by rw [rr.length]; exact le⟩⟩⟩
  have sl : SqL X.K H a vs := SqL.of (Hd_ext _ _ (T.b _ _ s))
  have hj : j < vs.length := by rw [rr.length]; exact lt
  refine ⟨⟨vs, vs[j], sl, List.getElem?_eq_getElem hj⟩, fun x H' ⟨e, y⟩ => ?_⟩
  subst e
  exact ⟨Ext.refl _, Rep.mono T.s (item_of rr (y vs sl))⟩
theorem iw_tup {tg : Expr} {R : Src} (h : EW X Z Γ e fun r Γ1 => Fz r Γ1 fun r Γ1 => ∃ ds, TupSrc r ds ∧ R ds.length (fun k => ds.getD k .non) Γ1) : IW X Z Γ tg e R := by
  refine pi_imp (pi_tup h) fun σ H RR ⟨M, A, k⟩ => ?_
  refine ⟨M, A, fun r v Γ1 M1 H1 n1 A1 T1 q1 => ?_⟩
  obtain ⟨M2, r', A2, T2, q2, nn, ds, hs, n2⟩ := A1.fz' q1 n1
  obtain ⟨a, vs, ev, s, rr⟩ := tup_src A2 q2 hs
  refine ⟨a, ev, ⟨vs, Ext.t Hd_ext s⟩, k _ _ _ M2 H1 _ n2 A2 (T1.trans T2) fun j M Γ σ H A T => ⟨fun lt => ?_, fun le => ⟨vs, Ext.t Hd_ext (Ext.t T.b s), by rw [rr.length]; exact le⟩⟩⟩
  have sl : SqT X.K H a vs := Ext.t Hd_ext (Ext.t T.b s)
  have hj : j < vs.length := by rw [rr.length]; exact lt
  refine ⟨⟨vs, vs[j], sl, List.getElem?_eq_getElem hj⟩, fun x H' ⟨e, y⟩ => ?_⟩
  subst e
  exact ⟨Ext.refl _, Rep.mono T.s (item_of rr (y vs sl))⟩
theorem wk_rng {K : PySem.W.Frag} {M1 : Addr → Prop} {H1 : Hp} {lo : Int} {n : Nat} : Wk K Z M1 H1 (Itr lo n) n (fun k => .int (lo + k)) := fun j M Γ σ H A T => ⟨fun lt => ⟨lt, fun x H' ⟨e, y⟩ => by
  subst e; subst y
  exact ⟨Ext.refl _, .int _⟩⟩, fun le => le⟩
theorem iw_rng1 {tg : Expr} {R : Src} {p : Pos} (hm : X.mg "range" = none) (h : AW X Z Γ [e] fun rs Γ1 => ∃ j : Int, views Γ1 rs [.int j] ∧ (-(2 ^ 62) ≤ j ∧ j < 2 ^ 62) ∧ R j.toNat (fun k => .int (k : Int)) Γ1) (hg : Gl X "range" := by rfl) (hs : starEach [e] X.env = [(false, eval e X.env)] := by rfl) : IW X Z Γ tg (.Call (.Name "range" p) [e] [] pos) R := by
  refine pi_imp (pi_range1 hg hm h hs) fun σ H RR ⟨M, A, k⟩ => ?_
  refine ⟨M, A, fun rs vs Γ1 M1 H1 ⟨j, w, hj, n⟩ nn A1 T1 q1 => ?_⟩
  obtain ⟨v, ev, rv⟩ := (A1.views q1 w).one
  refine ⟨j, by rw [ev, rv.int_inv], hj.1, hj.2, k _ _ _ M1 H1 _ n A1 T1 ?_⟩
  have := wk_rng (K := X.K) (Z := Z) (M1 := M1) (H1 := H1) (lo := 0) (n := j.toNat)
  simpa using this
theorem iw_rng2 {tg : Expr} {R : Src} {p : Pos} (hm : X.mg "range" = none) (h : AW X Z Γ [a, b] fun rs Γ1 => ∃ i j : Int, views Γ1 rs [.int i, .int j] ∧ (-(2 ^ 62) ≤ i ∧ i < 2 ^ 62 ∧ -(2 ^ 62) ≤ j ∧ j < 2 ^ 62) ∧ R (j - i).toNat (fun k => .int (i + k)) Γ1) (hg : Gl X "range" := by rfl) (hs : starEach [a, b] X.env = [(false, eval a X.env), (false, eval b X.env)] := by rfl) (hs2 : starEach [b] X.env = [(false, eval b X.env)] := by rfl) : IW X Z Γ tg (.Call (.Name "range" p) [a, b] [] pos) R := by
  refine pi_imp (pi_range2 hg hm h hs hs2) fun σ H RR ⟨M, A, k⟩ => ?_
  refine ⟨M, A, fun rs vs Γ1 M1 H1 ⟨i, j, w, hj, n⟩ nn A1 T1 q1 => ?_⟩
  obtain ⟨v, u, ev, rv, ru⟩ := (A1.views q1 w).two
  exact ⟨i, j, by rw [ev, rv.int_inv, ru.int_inv], hj, k _ _ _ M1 H1 _ n A1 T1 wk_rng⟩
/-! ### targets -/
def tgOf (K : PySem.W.Frag) (Z : Zc) (Γ : List Sl) (d : D) (k : List Sl → Prop) : TG := fun v σ H Q => ∃ M, As K Z M Γ σ H ∧ Rep K (Hd (Un M Z.B) H) v d ∧ ∀ Γ' M' σ' H', k Γ' → As K Z M' Γ' σ' H' → Tr Z M H M' H' → Q σ' H'
abbrev GW (X : Cx) (Z : Zc) (Γ : List Sl) (tg : Expr) (d : D) (k : List Sl → Prop) : Prop := PG X tg (tgOf X.K Z Γ d k)
theorem pg_imp {tg : Expr} {g g' : TG} (h : PG X tg g) (i : ∀ v σ H Q, g' v σ H Q → g v σ H Q) : PG X tg g' := ⟨fun pins s σ H v u Q I r q => h.run pins s σ H v u Q I r (i _ _ _ _ q)⟩
theorem pg_ex {ι : Type} {p : ι → Prop} {tg : Expr} {t : ι → TG} (h : ∀ i, p i → PG X tg (t i)) : PG X tg (fun v σ H Q => ∃ i, p i ∧ t i v σ H Q) := ⟨fun pins s σ H v u Q I r ⟨i, hi, w⟩ => (h i hi).run pins s σ H v u Q I r w⟩
theorem gw_name {i : Nat} {x : Str} {d : D} {k : List Sl → Prop} (hN : X.N.Nodup) (hi : X.N[i]? = some x) (hx : Loc X.env.scope x) (h : k (Γ.set i (.im d))) (hf : X.fn x = true ∨ X.env.scope.names.lookup x = some .local := by first | exact .inl rfl | exact .inr rfl | assumption) : GW X Z Γ (.Name x pos) d k :=
  pg_imp (pg_name hN hi hx hf) fun v σ H Q ⟨M, A, r, kk⟩ => kk _ M _ H h (A.put (s := .im d) ⟨v, rfl, r⟩ (fun j a q => nomatch q)) (Tr.refl _ _ _)
theorem gw_tup2 {i j : Nat} {x y : Str} {d1 d2 : D} {k : List Sl → Prop} {px py tpos : Pos} {tk : Nat} (hc : X.calm = true) (hN : X.N.Nodup) (hi : X.N[i]? = some x) (hj : X.N[j]? = some y) (hx : Loc X.env.scope x) (hy : Loc X.env.scope y) (h : k ((Γ.set i (.im d1)).set j (.im d2)))
    (hf : X.fn x = true ∨ X.env.scope.names.lookup x = some .local := by first | exact .inl rfl | exact .inr rfl | assumption) (hf2 : X.fn y = true ∨ X.env.scope.names.lookup y = some .local := by first | exact .inl rfl | exact .inr rfl | assumption) : GW X Z Γ (.Tuple [.Name x px, .Name y py] tk tpos) (.tup [d1, d2]) k := by
  refine pg_imp (pg_tup hc (pgs_cons (pg_name hN hi hx hf) (pgs_cons (pg_name hN hj hy hf2) pgs_nil))) fun v σ H Q ⟨M, A, r, kk⟩ => ?_
  obtain ⟨a, vs, ev, s, rr⟩ := r.tup_inv
  cases rr with
  | cons r1 rr =>
    cases rr with
    | cons r2 rr =>
      cases rr
      exact ⟨a, _, ev, Ext.t Hd_ext s, rfl, _, _, rfl, _, _, rfl, rfl, kk _ M _ H h ((A.put (s := .im d1) ⟨_, rfl, r1⟩ (fun j a q => nomatch q)).put (s := .im d2) ⟨_, rfl, r2⟩ (fun j a q => nomatch q)) (Tr.refl _ _ _)⟩
/-! ### loops -/
/-- the body of a for, from turn k on -/
abbrev ForOK (X : Cx) (Z : Zc) (tg : Expr) (body : List Stmt) (P : Po) (I : Nat → List Sl → Prop) (n : Nat) (item : Nat → D) : Prop :=
  ∀ k Γ', k < n → I k Γ' → GW X Z Γ' tg (item k) fun Γ2 => SS X Z Γ2 body ⟨I (k + 1), P.rt, P.nx, I (k + 1)⟩
theorem sw_for {tg iter : Expr} {body : List Stmt} (hp : PassesOwn (model X.prog X.w) X.A X.env X.xe) (hc : X.calm = true)
    (h : IW X Z Γ tg iter fun n item Γ1 => ∃ I : Nat → List Sl → Prop, I 0 Γ1 ∧ ForOK X Z tg body P I n item ∧ ∀ Γ', I n Γ' → P.nx Γ')
    (hs : ∀ x, foldedSetIterable iter X.env x = pure x := by intro _; rfl) : SW X Z Γ (.For tg iter body [] pos) P := by
  have hg : PG X tg (fun v σ H Q => ∃ y : D × List Sl × (List Sl → Prop), GW X Z y.2.1 tg y.1 y.2.2 ∧ tgOf X.K Z y.2.1 y.1 y.2.2 v σ H Q) := pg_ex fun _ hi => hi
  have hb : PSs X body (fun D σ H => ∃ y : List Sl × Po, SS X Z y.1 body y.2 ∧ tsOf X.K Z y.1 y.2 D σ H) := pss_ex fun _ hi => hi
  refine ps_imp (ps_for hp hc h hg hb hs) fun D σ H ⟨M, A, k1, k2, k3, k4⟩ => ?_
  refine ⟨M, A, fun n item Γ1 M1 H1 J ⟨I, i0, turn, fin⟩ A1 T1 wk => ?_⟩
  refine ⟨fun i m σ H => m = n - i ∧ i ≤ n ∧ ∃ Γ M, I i Γ ∧ As X.K Z M Γ σ H ∧ Tr Z M1 H1 M H, ⟨n, rfl, Nat.zero_le _, Γ1, M1, i0, A1, Tr.refl _ _ _⟩, ?_⟩
  rintro i m σ2 H2 ⟨rfl, hi, Γ2, M2, ii, A2, T2⟩
  obtain ⟨w1, w2⟩ := wk i M2 Γ2 σ2 H2 A2 T2
  by_cases lt : i < n
  · obtain ⟨go, item_⟩ := w1 lt
    refine .inr ⟨go, fun σ H => ∃ Γ M, I (i + 1) Γ ∧ As X.K Z M Γ σ H ∧ Tr Z M1 H1 M H, fun σ' H' ⟨Γ3, M3, ii, A3, T3⟩ => ⟨n - (i + 1), by omega, rfl, lt, Γ3, M3, ii, A3, T3⟩, fun x H' y => ?_⟩
    obtain ⟨eh, rx⟩ := item_ x H' y
    obtain ⟨A3, T3⟩ := A2.grow eh
    refine ⟨(item i, Γ2, _), turn i Γ2 lt ii, M2, A3, rx, fun Γ4 M4 σ4 H4 ss A4 T4 => ?_⟩
    refine ⟨(Γ4, ⟨I (i + 1), P.rt, P.nx, I (i + 1)⟩), ss, M4, A4, fun Γ5 M5 σ5 H5 n5 A5 T5 => ⟨Γ5, M5, n5, A5, ((T2.trans T3).trans T4).trans T5⟩, k2, fun Γ5 M5 σ5 H5 n5 A5 T5 => ?_, fun Γ5 M5 σ5 H5 n5 A5 T5 => ⟨Γ5, M5, n5, A5, ((T2.trans T3).trans T4).trans T5⟩⟩
    exact k1 _ _ _ _ n5 A5 ((((T1.trans T2).trans T3).trans T4).trans T5)
  · have e : i = n := by omega
    subst e
    exact .inl ⟨w2 (Nat.le_refl _), k1 _ _ _ _ (fin _ ii) A2 (T1.trans T2)⟩
theorem sw_while {body : List Stmt} (hp : PassesOwn (model X.prog X.w) X.A X.env X.xe) (I : Nat → List Sl → Prop) (h0 : ∃ m, I m Γ)
    (h : ∀ m Γ', I m Γ' → TW X Z Γ' c fun t Γ1 => (t = true → SS X Z Γ1 body ⟨fun Γ2 => ∃ m', m' < m ∧ I m' Γ2, P.rt, P.nx, fun Γ2 => ∃ m', m' < m ∧ I m' Γ2⟩) ∧ (t = false → P.nx Γ1)) : SW X Z Γ (.While c body [] pos) P := by
  have hc : PT X c (fun σ H Q => ∃ y : Nat × List Sl, I y.1 y.2 ∧ ttOf X.K Z y.2 (fun t Γ1 => (t = true → SS X Z Γ1 body ⟨fun Γ2 => ∃ m', m' < y.1 ∧ I m' Γ2, P.rt, P.nx, fun Γ2 => ∃ m', m' < y.1 ∧ I m' Γ2⟩) ∧ (t = false → P.nx Γ1)) σ H Q) := pt_ex fun y hi => h y.1 y.2 hi
  have hb : PSs X body (fun D σ H => ∃ y : List Sl × Po, SS X Z y.1 body y.2 ∧ tsOf X.K Z y.1 y.2 D σ H) := pss_ex fun _ hi => hi
  refine ps_imp (ps_while hp hc hb) fun D σ H ⟨M, A, k1, k2, k3, k4⟩ => ?_
  obtain ⟨m0, i0⟩ := h0
  refine ⟨fun m σ' H' => ∃ Γ' M', I m Γ' ∧ As X.K Z M' Γ' σ' H' ∧ Tr Z M H M' H', ⟨m0, Γ, M, i0, A, Tr.refl _ _ _⟩, ?_⟩
  rintro m σ1 H1 ⟨Γ1, M1, i1, A1, T1⟩
  refine ⟨(m, Γ1), i1, M1, A1, fun t Γ2 M2 H2 ⟨n1, n2⟩ A2 T2 => ?_⟩
  cases t with
  | true =>
    rw [if_pos rfl]
    refine ⟨fun σ' H' => ∃ m', m' < m ∧ ∃ Γ' M', I m' Γ' ∧ As X.K Z M' Γ' σ' H' ∧ Tr Z M H M' H', fun σ' H' q => q, ?_⟩
    refine ⟨(Γ2, _), n1 rfl, M2, A2, fun Γ5 M5 σ5 H5 ⟨m', lt, n5⟩ A5 T5 => ⟨m', lt, Γ5, M5, n5, A5, (T1.trans T2).trans T5⟩, k2, fun Γ5 M5 σ5 H5 n5 A5 T5 => k1 _ _ _ _ n5 A5 ((T1.trans T2).trans T5), fun Γ5 M5 σ5 H5 ⟨m', lt, n5⟩ A5 T5 => ⟨m', lt, Γ5, M5, n5, A5, (T1.trans T2).trans T5⟩⟩
  | false =>
    rw [if_neg Bool.false_ne_true]
    exact k1 _ _ _ _ (n2 rfl) A2 (T1.trans T2)
end
end Lw

namespace Lw
open PySem L2 PyProof.Rows
/-! ### list comprehensions -/
def pwS (j : Nat) : Sl → Sl
  | .ow d => .pw j d
  | .pw _ d => .pw j d
  | s => s
def pwA : Nat → List Sl → List Sl
  | _, [] => []
  | j, s :: Γ => pwS j s :: pwA (j + 1) Γ
/-- back to the slots as they were called before -/
def backS : Sl → Option Sl → Sl
  | .ow d, some (.pw _ d') => .ow d'
  | .pw k d, some (.pw _ d') => .pw k d'
  | s, _ => s
def backA : Nat → List Sl → List Sl → List Sl
  | _, [], _ => []
  | j, s :: Γ, Γ' => backS s Γ'[j]? :: backA (j + 1) Γ Γ'
/-- what was owned is still owned -/
def okBack : Nat → List Sl → List Sl → Prop
  | _, [], _ => True
  | j, .ow _ :: Γ, Γ' => (∃ d', Γ'[j]? = some (.pw j d')) ∧ okBack (j + 1) Γ Γ'
  | j, .pw _ _ :: Γ, Γ' => (∃ d', Γ'[j]? = some (.pw j d')) ∧ okBack (j + 1) Γ Γ'
  | j, _ :: Γ, Γ' => okBack (j + 1) Γ Γ'
def wipeG (Γ : List Sl) : List Nat → List Sl
  | [] => Γ
  | v :: vs => (wipeG Γ vs).set v .un
def noOwn (Γ : List Sl) : List Nat → Prop
  | [] => True
  | v :: vs => (∀ s, Γ[v]? = some s → s.owns = false) ∧ noOwn Γ vs
theorem pwA_len : ∀ {Γ : List Sl} {j : Nat}, (pwA j Γ).length = Γ.length
  | [], _ => rfl
  | s :: Γ, j => by simp [pwA, pwA_len (Γ := Γ)]
theorem pwA_get : ∀ {Γ : List Sl} {j i : Nat} {s : Sl}, (pwA j Γ)[i]? = some s → ∃ t, Γ[i]? = some t ∧ s = pwS (j + i) t
  | [], _, _, _, h => by simp [pwA] at h
  | s :: Γ, j, 0, t, h => by simp [pwA] at h; exact ⟨s, by simp, h.symm⟩
  | s :: Γ, j, i + 1, t, h => by
    obtain ⟨u, h1, h2⟩ := pwA_get (Γ := Γ) (j := j + 1) (i := i) (s := t) (by simpa [pwA] using h)
    exact ⟨u, by simpa using h1, by rw [h2]; congr 1; omega⟩
theorem backA_len : ∀ {Γ Γ' : List Sl} {j : Nat}, (backA j Γ Γ').length = Γ.length
  | [], _, _ => rfl
  | s :: Γ, Γ', j => by simp [backA, backA_len (Γ := Γ)]
theorem backA_get : ∀ {Γ Γ' : List Sl} {j i : Nat} {s : Sl}, (backA j Γ Γ')[i]? = some s → ∃ t, Γ[i]? = some t ∧ s = backS t Γ'[j + i]?
  | [], _, _, _, _, h => by simp [backA] at h
  | t :: Γ, Γ', j, 0, s, h => by simp [backA] at h; exact ⟨t, by simp, by simp [h]⟩
  | t :: Γ, Γ', j, i + 1, s, h => by
    obtain ⟨u, h1, h2⟩ := backA_get (Γ := Γ) (Γ' := Γ') (j := j + 1) (i := i) (by simpa [backA] using h)
    exact ⟨u, by simpa using h1, by rw [h2]; congr 2; omega⟩
theorem okBack_get : ∀ {Γ Γ' : List Sl} {j i : Nat} {t : Sl}, okBack j Γ Γ' → Γ[i]? = some t → t.owns = true → ∃ d', Γ'[j + i]? = some (.pw (j + i) d')
  | [], _, _, _, _, _, h, _ => by simp at h
  | s :: Γ, Γ', j, 0, t, ok, h, ho => by
    simp at h; subst h
    cases s with
    | ow d => simpa using ok.1
    | pw k d => simpa using ok.1
    | un => cases ho
    | im d => cases ho
    | bo d => cases ho
    | va d => cases ho
  | s :: Γ, Γ', j, i + 1, t, ok, h, ho => by
    have ok' : okBack (j + 1) Γ Γ' := by cases s <;> first | exact ok | exact ok.2
    obtain ⟨d', e⟩ := okBack_get ok' (by simpa using h) ho
    exact ⟨d', by rw [show j + (i + 1) = j + 1 + i by omega]; exact e⟩
theorem noOwn_get : ∀ {Γ : List Sl} {vs : List Nat} {v : Nat} {s : Sl}, noOwn Γ vs → v ∈ vs → Γ[v]? = some s → s.owns = false
  | _, [], _, _, _, h, _ => by simp at h
  | _, w :: vs, v, s, ⟨a, b⟩, h, e => by
    rcases List.mem_cons.mp h with q | q
    · subst q; exact a s e
    · exact noOwn_get b q e
/-- the heap without D -/
def wo (D : Addr) (H : Hp) : Hp := fun a => if a = D then none else H a
theorem wo_ne {D a : Addr} {H : Hp} (h : a ≠ D) : wo D H a = H a := by unfold wo; rw [if_neg h]
theorem wo_D {D : Addr} {H : Hp} : wo D H D = none := by unfold wo; rw [if_pos rfl]
theorem wo_upd {D : Addr} {H : Hp} {o : HO} : wo D (upd H D o) = wo D H := funext fun a => by
  by_cases h : a = D
  · rw [h, wo_D, wo_D]
  · rw [wo_ne h, wo_ne h, upd_ne h]
theorem upd_wo {D : Addr} {H : Hp} {o : HO} (h : H D = some o) : upd (wo D H) D o = H := funext fun a => by
  by_cases e : a = D
  · rw [e, upd_same, h]
  · rw [upd_ne e, wo_ne e]
theorem wo_self {D : Addr} {H : Hp} (h : H D = none) : wo D H = H := funext fun a => by
  by_cases e : a = D
  · rw [e, wo_D, h]
  · rw [wo_ne e]
section
variable {K : PySem.W.Frag} {Z : Zc} {M : Addr → Prop} {Γ : List Sl} {σ : L2.St} {H : Hp}
/-- the inner run: all that is owned is a parameter's, the list at D is lent -/
def Zc.inn (Z : Zc) (M : Addr → Prop) (σ : L2.St) (H : Hp) (D : Addr) (hb : ∀ a, (Z.B a ∨ a = D) → H a ≠ none) (hm : ∀ a, M a → H a ≠ none) (hd : ∀ a, M a → ¬ (Z.B a ∨ a = D)) : Zc :=
  ⟨H, M, fun a => Z.B a ∨ a = D, fun j => match σ[j]? with
    | some (some (.ref a)) => some a
    | _ => none, hb, hm, hd⟩
theorem As.bH (A : As K Z M Γ σ H) {a : Addr} (h : Z.B a) : H a ≠ none := by
  cases e : Z.H0 a with
  | none => exact absurd e (Z.b0 a h)
  | some o => rw [A.fr a o e fun m => Z.dj a m h]; simp
theorem As.mB (A : As K Z M Γ σ H) {a : Addr} (h : M a) : ¬ Z.B a := fun b => (A.mf a h).elim (fun m => Z.dj a m b) (fun z => Z.b0 a b z)
theorem As.inn {D : Addr} (A : As K Z M Γ σ (wo D H)) {o : HO} (hD : H D = some o) :
    ∃ hb hm hd, As K (Z.inn M σ H D hb hm hd) M (pwA 0 Γ) σ H ∧ ∀ {v : V} {d : Lw.D}, Rep K (Hd (Un M Z.B) (wo D H)) v d → Rep K (Hd (Un M (Z.inn M σ H D hb hm hd).B) H) v d := by
  have hMD : ¬ M D := fun m => A.ml D m wo_D
  have hH : ∀ a, wo D H a ≠ none → H a ≠ none := fun a h e => by
    by_cases q : a = D
    · rw [q, hD] at e; cases e
    · rw [wo_ne q] at h; exact h e
  have hb : ∀ a, (Z.B a ∨ a = D) → H a ≠ none := fun a h => by
    rcases h with h | h
    · exact hH a (A.bH h)
    · rw [h, hD]; simp
  have hm : ∀ a, M a → H a ≠ none := fun a h => hH a (A.ml a h)
  have hd : ∀ a, M a → ¬ (Z.B a ∨ a = D) := fun a h q => q.elim (A.mB h) fun q => hMD (q ▸ h)
  have xs : Ext (Hd (Un M Z.B) (wo D H)) (Hd (Un M fun a => Z.B a ∨ a = D) H) := Hd_mono fun a u h n => by
    have ne : a ≠ D := fun e => by rw [e, wo_D] at h; cases h
    rw [wo_ne ne] at h
    exact ⟨fun q => q.elim (fun q => n (.inl q)) fun q => q.elim (fun q => n (.inr q)) ne, h⟩
  have xb : Ext (Hd M (wo D H)) (Hd M H) := Hd_mono fun a u h n => by
    have ne : a ≠ D := fun e => by rw [e, wo_D] at h; cases h
    rw [wo_ne ne] at h
    exact ⟨n, h⟩
  have own : ∀ {j a}, OwnAt (pwA 0 Γ) σ j a → OwnAt Γ σ j a := fun {j a} ⟨s, h1, h2, h3⟩ => by
    obtain ⟨t, e, q⟩ := pwA_get h1
    subst q
    cases t <;> first | exact ⟨_, e, rfl, h3⟩ | cases h2
  refine ⟨hb, hm, hd, ⟨by rw [pwA_len]; exact A.len, fun j s ov h1 h2 => ?_, fun i j a h1 h2 => A.dis i j a (own h1) (own h2), fun b o h n => h, fun b h => h, fun b h => .inl h, hm⟩, fun r => r.mono xs⟩
  obtain ⟨t, e, q⟩ := pwA_get h1
  subst q
  have r := A.rel j t ov e h2
  cases t with
  | un => trivial
  | va u => exact r
  | im d => obtain ⟨v, e, r⟩ := r; exact ⟨v, e, r.mono xs⟩
  | bo d => obtain ⟨v, e, r⟩ := r; exact ⟨v, e, r.mono xb xs⟩
  | ow d =>
    obtain ⟨a, o, ea, m, z, ho, r⟩ := r
    subst ea
    have ne : a ≠ D := fun e => by rw [e, wo_D] at ho; cases ho
    rw [wo_ne ne] at ho
    exact ⟨a, o, rfl, m, ⟨m, by show (match σ[0 + j]? with | some (some (.ref a)) => some a | _ => none) = _; rw [Nat.zero_add, h2]⟩, ho, r.mono xs⟩
  | pw k d =>
    obtain ⟨a, o, ea, m, z, ho, r⟩ := r
    subst ea
    have ne : a ≠ D := fun e => by rw [e, wo_D] at ho; cases ho
    rw [wo_ne ne] at ho
    exact ⟨a, o, rfl, m, ⟨m, by show (match σ[0 + j]? with | some (some (.ref a)) => some a | _ => none) = _; rw [Nat.zero_add, h2]⟩, ho, r.mono xs⟩
/-- back from the inner run -/
theorem As.out {D : Addr} {o : HO} (A : As K Z M Γ σ (wo D H)) (hD : H D = some o) {hb hm hd} {M' : Addr → Prop} {Γ' : List Sl} {σ' : L2.St} {H' : Hp} {vs : List Nat} (A' : As K (Z.inn M (wipe σ vs) H D hb hm hd) M' Γ' σ' H') (T : Tr (Z.inn M (wipe σ vs) H D hb hm hd) M H M' H')
    (hw : wipe σ' vs = wipe σ vs) (hno : noOwn Γ vs) (ok : okBack 0 Γ Γ') : H' D = some o ∧ As K Z M' (backA 0 Γ Γ') σ (wo D H') ∧ Tr Z M (wo D H) M' (wo D H') ∧ ∀ {v : V} {d : Lw.D}, Rep K (Hd (Un M' (Z.inn M (wipe σ vs) H D hb hm hd).B) H') v d → Rep K (Hd (Un M' Z.B) (wo D H')) v d := by
  have hMD : ¬ M D := fun m => A.ml D m wo_D
  have hD' : H' D = some o := A'.fr D o hD hMD
  have xs : Ext (Hd (Un M' (Z.inn M (wipe σ vs) H D hb hm hd).B) H') (Hd (Un M' Z.B) (wo D H')) := Hd_mono fun a u h n => by
    have ne : a ≠ D := fun e => n (.inr (.inr e))
    exact ⟨fun q => n (q.elim .inl fun q => .inr (.inl q)), by rw [wo_ne ne]; exact h⟩
  have ts : Ext (Hd (Un M Z.B) (wo D H)) (Hd (Un M' Z.B) (wo D H')) := Ext.trans (Hd_mono fun a u h n => by
    have ne : a ≠ D := fun e => by rw [e, wo_D] at h; cases h
    rw [wo_ne ne] at h
    exact ⟨fun q => q.elim (fun q => n (.inl q)) fun q => q.elim (fun q => n (.inr q)) ne, h⟩ : Ext (Hd (Un M Z.B) (wo D H)) (Hd (Un M (Z.inn M (wipe σ vs) H D hb hm hd).B) H)) (T.s.trans xs)
  have tb : Ext (Hd M (wo D H)) (Hd M' (wo D H')) := fun a u h => by
    obtain ⟨n, h⟩ := Hd_some.mp h
    have ne : a ≠ D := fun e => by rw [e, wo_D] at h; cases h
    rw [wo_ne ne] at h
    obtain ⟨n', h'⟩ := Hd_some.mp (T.b a u (Hd_some.mpr ⟨n, h⟩))
    exact Hd_some.mpr ⟨n', by rw [wo_ne ne]; exact h'⟩
  have sl : ∀ j, j ∉ vs → σ'[j]? = σ[j]? := fun j hj => by
    have e := congrArg (fun (s : L2.St) => s[j]?) hw
    simp only [wipe_out hj] at e
    exact e
  have pa : ∀ {j a}, j ∉ vs → σ[j]? = some (some (.ref a)) → (Z.inn M (wipe σ vs) H D hb hm hd).pa j = some a := fun {j a} hj e => by
    show (match (wipe σ vs)[j]? with | some (some (.ref a)) => some a | _ => none) = _
    rw [wipe_out hj, e]
  have ownBack : ∀ {j a}, OwnAt (backA 0 Γ Γ') σ j a → OwnAt Γ σ j a := fun {j a} ⟨s, h1, h2, h3⟩ => by
    obtain ⟨t, e, q⟩ := backA_get h1
    refine ⟨t, e, ?_, h3⟩
    cases t with
    | ow d => rfl
    | pw k d => rfl
    | un => rw [q] at h2; cases h2
    | va _ => rw [q] at h2; cases h2
    | im d => rw [q] at h2; cases h2
    | bo d => rw [q] at h2; cases h2
  refine ⟨hD', ⟨by rw [backA_len]; exact A.len, fun j s ov h1 h2 => ?_, fun i j a h1 h2 => A.dis i j a (ownBack h1) (ownBack h2), fun b u h n => ?_, fun b h => A'.m0 b (A.m0 b h), fun b h => ?_, fun b h => ?_⟩, ⟨ts, tb⟩, fun r => r.mono xs⟩
  · obtain ⟨t, e, q⟩ := backA_get h1
    subst q
    rw [Nat.zero_add]
    have r := A.rel j t ov e h2
    cases t with
    | un => trivial
    | va u => exact r
    | im d => obtain ⟨v, e, r⟩ := r; exact ⟨v, e, r.mono ts⟩
    | bo d => obtain ⟨v, e, r⟩ := r; exact ⟨v, e, r.mono tb ts⟩
    | ow d =>
      obtain ⟨a, u, ea, m, z, ho, _⟩ := r
      subst ea
      have nj : j ∉ vs := fun hj => nomatch noOwn_get hno hj e
      obtain ⟨d', e'⟩ := okBack_get ok e rfl
      rw [Nat.zero_add] at e'
      rw [e']
      have hs : σ'[j]? = some (some (.ref a)) := by rw [sl j nj]; exact h2
      obtain ⟨a2, u2, ea, m2, ⟨_, p2⟩, ho2, r2⟩ := A'.rel j _ _ e' hs
      cases ea
      have ne : a ≠ D := fun e => by rw [e, wo_D] at ho; cases ho
      exact ⟨a, u2, rfl, m2, z, by rw [wo_ne ne]; exact ho2, r2.mono xs⟩
    | pw k d =>
      obtain ⟨a, u, ea, m, z, ho, _⟩ := r
      subst ea
      have nj : j ∉ vs := fun hj => nomatch noOwn_get hno hj e
      obtain ⟨d', e'⟩ := okBack_get ok e rfl
      rw [Nat.zero_add] at e'
      rw [e']
      have hs : σ'[j]? = some (some (.ref a)) := by rw [sl j nj]; exact h2
      obtain ⟨a2, u2, ea, m2, ⟨_, p2⟩, ho2, r2⟩ := A'.rel j _ _ e' hs
      cases ea
      have ne : a ≠ D := fun e => by rw [e, wo_D] at ho; cases ho
      exact ⟨a, u2, rfl, m2, z, by rw [wo_ne ne]; exact ho2, r2.mono xs⟩
  · have q := A.fr b u h n
    have ne : b ≠ D := fun e => by rw [e, wo_D] at q; cases q
    rw [wo_ne ne] at q ⊢
    exact A'.fr b u q fun m => (A.mf b m).elim n fun z => by rw [z] at h; cases h
  · rcases A'.mf b h with m | z
    · exact A.mf b m
    · have hz : H b = none := z
      exact .inr (A.fresh0 (by by_cases e : b = D; (rw [e, wo_D]); (rw [wo_ne e]; exact hz)))
  · have ne : b ≠ D := fun e => by
      subst e
      rcases A'.mf b h with m | z
      · exact hMD m
      · have hz : H b = none := z
        rw [hD] at hz; cases hz
    rw [wo_ne ne]; exact A'.ml b h
theorem wipe_set_mem {σ : L2.St} {x : Option V} : ∀ {vs : List Nat} {i : Nat}, i ∈ vs → wipe (σ.set i x) vs = wipe σ vs
  | [], i, h => by simp at h
  | v :: vs, i, h => by
    unfold wipe
    by_cases e : i ∈ vs
    · rw [wipe_set_mem e]
    · have hv : i = v := by
        rcases List.mem_cons.mp h with q | q
        · exact q
        · exact absurd q e
      subst hv
      apply List.ext_getElem?
      intro j
      by_cases hj : i = j
      · subst hj
        by_cases hl : i < σ.length
        · rw [List.getElem?_set_self (by rw [wipe_length]; simpa using hl), List.getElem?_set_self (by rw [wipe_length]; exact hl)]
        · rw [List.getElem?_eq_none (by rw [List.length_set, wipe_length, List.length_set]; omega), List.getElem?_eq_none (by rw [List.length_set, wipe_length]; omega)]
      · rw [List.getElem?_set_ne hj, List.getElem?_set_ne hj]
        clear h e
        induction vs with
        | nil => unfold wipe; rw [List.getElem?_set_ne hj]
        | cons w ws ih =>
          unfold wipe
          by_cases hw : w = j
          · subst hw
            by_cases hl : w < σ.length
            · rw [List.getElem?_set_self (by rw [wipe_length]; simpa using hl), List.getElem?_set_self (by rw [wipe_length]; exact hl)]
            · rw [List.getElem?_eq_none (by rw [List.length_set, wipe_length, List.length_set]; omega), List.getElem?_eq_none (by rw [List.length_set, wipe_length]; omega)]
          · rw [List.getElem?_set_ne hw, List.getElem?_set_ne hw]; exact ih
theorem wipe_wipe {σ : L2.St} : ∀ {vs : List Nat}, wipe (wipe σ vs) vs = wipe σ vs := fun {vs} => by
  have key : ∀ (ws : List Nat) (τ : L2.St), (∀ v ∈ ws, v ∈ vs) → wipe (wipe τ ws) vs = wipe τ vs := fun ws => by
    induction ws with
    | nil => intro τ _; rfl
    | cons w ws ih =>
      intro τ h
      show wipe ((wipe τ ws).set w none) vs = _
      rw [wipe_set_mem (h w List.mem_cons_self)]
      exact ih τ fun v hv => h v (List.mem_cons_of_mem _ hv)
  exact key vs σ fun _ h => h
theorem As.un (A : As K Z M Γ σ H) {i : Nat} : As K Z M (Γ.set i .un) (σ.set i none) H := by
  by_cases hi : i < σ.length
  · have gl : i < Γ.length := by rw [← A.len]; exact hi
    have own : ∀ {j a}, OwnAt (Γ.set i .un) (σ.set i none) j a → OwnAt Γ σ j a := fun {j a} ⟨t, x1, x2, x3⟩ => by
      rcases set_get x1 with ⟨e, et⟩ | ⟨e, g⟩
      · subst et; cases x2
      · rw [List.getElem?_set_ne e] at x3
        exact ⟨t, g, x2, x3⟩
    refine ⟨by rw [List.length_set, List.length_set]; exact A.len, fun j t ov h1 h2 => ?_, fun j k a h1 h2 => A.dis j k a (own h1) (own h2), A.fr, A.m0, A.mf, A.ml⟩
    rcases set_get h1 with ⟨e, et⟩ | ⟨e, g⟩
    · subst et; trivial
    · rw [List.getElem?_set_ne e] at h2; exact A.rel j t ov g h2
  · have e1 : σ.set i none = σ := List.set_eq_of_length_le (by omega)
    have e2 : Γ.set i .un = Γ := List.set_eq_of_length_le (by rw [← A.len]; omega)
    rw [e1, e2]; exact A
theorem As.wipe (A : As K Z M Γ σ H) : ∀ vs : List Nat, As K Z M (wipeG Γ vs) (wipe σ vs) H
  | [] => A
  | v :: vs => (As.wipe A vs).un
end
end Lw

namespace Lw
open PySem L2 PyProof.Rows
abbrev Cx.cb (X : L2.Cx) (scope : Scope) (s : Shared) (H : Hp) (C : Addr) (cl : List (Str × Addr)) (fp : List Addr) : L2.Cx := X.blk s H scope (compEnvC scope cl C X.env) fp
section
variable {X : L2.Cx} {Z : Zc} {Γ : List Sl} {N : Rv → List Sl → Prop} {e elt tg iter c : Expr} {pos : Pos}
/-- a target within a comprehension: only its own slots change -/
def tcOf (K : PySem.W.Frag) (Z : Zc) (Γ : List Sl) (d : D) (vs : List Nat) (k : List Sl → Prop) : TG := fun v σ H Q => ∃ M, As K Z M Γ σ H ∧ Rep K (Hd (Un M Z.B) H) v d ∧ ∀ Γ' M' σ' H', k Γ' → As K Z M' Γ' σ' H' → Tr Z M H M' H' → wipe σ' vs = wipe σ vs → Q σ' H'
abbrev GC (X : L2.Cx) (Z : Zc) (Γ : List Sl) (tg : Expr) (d : D) (vs : List Nat) (k : List Sl → Prop) : Prop := PG X tg (tcOf X.K Z Γ d vs k)
theorem gc_name {i : Nat} {x : Str} {d : D} {vs : List Nat} {k : List Sl → Prop} (hN : X.N.Nodup) (hi : X.N[i]? = some x) (hx : Loc X.env.scope x) (hv : i ∈ vs) (h : k (Γ.set i (.im d))) (hf : X.fn x = true ∨ X.env.scope.names.lookup x = some .local := by first | exact .inl rfl | exact .inr rfl | assumption) : GC X Z Γ (.Name x pos) d vs k :=
  pg_imp (pg_name hN hi hx hf) fun v σ H Q ⟨M, A, r, kk⟩ => kk _ M _ H h (A.put (s := .im d) ⟨v, rfl, r⟩ (fun j a q => nomatch q)) (Tr.refl _ _ _) (wipe_set_mem hv)
theorem gc_tup2 {i j : Nat} {x y : Str} {d1 d2 : D} {vs : List Nat} {k : List Sl → Prop} {px py tpos : Pos} {tk : Nat} (hc : X.calm = true) (hN : X.N.Nodup) (hi : X.N[i]? = some x) (hj : X.N[j]? = some y) (hx : Loc X.env.scope x) (hy : Loc X.env.scope y) (hv : i ∈ vs) (hw : j ∈ vs) (h : k ((Γ.set i (.im d1)).set j (.im d2)))
    (hf : X.fn x = true ∨ X.env.scope.names.lookup x = some .local := by first | exact .inl rfl | exact .inr rfl | assumption) (hf2 : X.fn y = true ∨ X.env.scope.names.lookup y = some .local := by first | exact .inl rfl | exact .inr rfl | assumption) : GC X Z Γ (.Tuple [.Name x px, .Name y py] tk tpos) (.tup [d1, d2]) vs k := by
  refine pg_imp (pg_tup hc (pgs_cons (pg_name hN hi hx hf) (pgs_cons (pg_name hN hj hy hf2) pgs_nil))) fun v σ H Q ⟨M, A, r, kk⟩ => ?_
  obtain ⟨a, us, ev, s, rr⟩ := r.tup_inv
  cases rr with
  | cons r1 rr =>
    cases rr with
    | cons r2 rr =>
      cases rr
      exact ⟨a, _, ev, Ext.t Hd_ext s, rfl, _, _, rfl, _, _, rfl, rfl, kk _ M _ H h ((A.put (s := .im d1) ⟨_, rfl, r1⟩ (fun j a q => nomatch q)).put (s := .im d2) ⟨_, rfl, r2⟩ (fun j a q => nomatch q)) (Tr.refl _ _ _) (by rw [wipe_set_mem hw, wipe_set_mem hv])⟩
abbrev TC (X : L2.Cx) (Z : Zc) (Γ : List Sl) (ifs : List Expr) (k : Bool → List Sl → Prop) : Prop := PTs X ifs (ttOf X.K Z Γ k)
theorem pts_imp {ifs : List Expr} {t t' : TT} (h : PTs X ifs t) (i : ∀ σ H Q, t' σ H Q → t σ H Q) : PTs X ifs t' := ⟨fun pins s σ H Q I w => h.run pins s σ H Q I (i _ _ _ w)⟩
theorem pts_ex {ι : Type} {p : ι → Prop} {ifs : List Expr} {t : ι → TT} (h : ∀ i, p i → PTs X ifs (t i)) : PTs X ifs (fun σ H Q => ∃ i, p i ∧ t i σ H Q) := ⟨fun pins s σ H Q I ⟨i, hi, w⟩ => (h i hi).run pins s σ H Q I w⟩
theorem tc_nil {k : Bool → List Sl → Prop} (h : k true Γ) : TC X Z Γ [] k := pts_imp pts_nil fun σ H Q ⟨M, A, kk⟩ => kk _ _ _ _ h A (Tr.refl _ _ _)
theorem tc_one {k : Bool → List Sl → Prop} (h : TW X Z Γ c k) : TC X Z Γ [c] k := pts_one h
theorem takes_none {K : PySem.W.Frag} : Takes X (wOf K Z fun _ _ _ => False) := fun _ _ ⟨_, _, _, _, _, _, _, _, _, _, _, _, _, _, _, _, C, fs, Γ, M, h, _⟩ => h.elim
/-- the element of turn k, behind the tests -/
def LcE (I : Nat → List D → List Sl → Prop) (k : Nat) (acc : List D) (Γ' : List Sl) : Rv → List Sl → Prop := fun r Γ4 => Im r Γ4 fun d Γ5 => okBack 0 Γ' Γ5 ∧ acc.length < 100000 ∧ I (k + 1) (acc ++ [d]) (backA 0 Γ' Γ5)
def LcT (X : L2.Cx) (elt : Expr) (scope : Scope) (I : Nat → List D → List Sl → Prop) (k : Nat) (acc : List D) (Γ' : List Sl) (Z' : Zc) : Bool → List Sl → Prop := fun b Γ3 =>
    (b = true → ∀ (s : Shared) (H : Hp) (C : Addr) (cl : List (Str × Addr)) (fp : List Addr), EW (Cx.cb X scope s H C cl fp) Z' Γ3 elt (LcE I k acc Γ')) ∧
    (b = false → okBack 0 Γ' Γ3 ∧ I (k + 1) acc (backA 0 Γ' Γ3))
def LcG (X : L2.Cx) (elt : Expr) (ifs : List Expr) (scope : Scope) (I : Nat → List D → List Sl → Prop) (k : Nat) (acc : List D) (Γ' : List Sl) (Z' : Zc) : List Sl → Prop := fun Γ2 =>
    ∀ (s : Shared) (H : Hp) (C : Addr) (cl : List (Str × Addr)) (fp : List Addr), TC (Cx.cb X scope s H C cl fp) Z' Γ2 ifs (LcT X elt scope I k acc Γ' Z')
def LcTurn (X : L2.Cx) (elt tg : Expr) (ifs : List Expr) (scope : Scope) (vs : List Nat) (I : Nat → List D → List Sl → Prop) (k : Nat) (acc : List D) (item : D) (Γ' : List Sl) : Prop :=
  ∀ (Z' : Zc) (s : Shared) (H : Hp) (C : Addr) (cl : List (Str × Addr)) (fp : List Addr), GC (Cx.cb X scope s H C cl fp) Z' (pwA 0 (wipeG Γ' vs)) tg item vs (LcG X elt ifs scope I k acc Γ' Z')
/-- what a comprehension asks behind its source -/
def LcOK (X : L2.Cx) (elt tg : Expr) (ifs : List Expr) (scope : Scope) (vs : List Nat) (N : Rv → List Sl → Prop) : Src := fun n item Γ1 =>
  ∃ I : Nat → List D → List Sl → Prop, I 0 [] Γ1 ∧ (∀ k acc Γ', k < n → I k acc Γ' → noOwn Γ' vs ∧ LcTurn X elt tg ifs scope vs I k acc (item k) Γ') ∧ ∀ acc Γ', I n acc Γ' → N (.new (.lst acc)) Γ'
theorem lc_parts {ifs : List Expr} {scope : Scope} {vs : List Nat} :
    ∃ (g : TG) (tt : TT) (te : TE), (∀ (s : Shared) (H : Hp) (C : Addr) (cl : List (Str × Addr)) (fp : List Addr), PG (Cx.cb X scope s H C cl fp) tg g) ∧ (∀ (s : Shared) (H : Hp) (C : Addr) (cl : List (Str × Addr)) (fp : List Addr), PTs (Cx.cb X scope s H C cl fp) ifs tt) ∧
      (∀ (s : Shared) (H : Hp) (C : Addr) (cl : List (Str × Addr)) (fp : List Addr), PE (Cx.cb X scope s H C cl fp) elt te) ∧
      ∀ {σ : L2.St} {H0 : Hp} {M0 : Addr → Prop} {Γ0 : List Sl} {n : Nat} {item : Nat → D} {J : It}, LcOK X elt tg ifs scope vs N n item Γ0 → As X.K Z M0 Γ0 σ H0 → Wk X.K Z M0 H0 J n item → ∀ (Q : VK), (∀ r v Γ' M' H', N r Γ' → As X.K Z M' Γ' σ H' → Tr Z M0 H0 M' H' → RvRel X.K Z M' Γ' σ H' v r → Q v H') →
        ∀ D, H0 D = none → ∃ W : Nat → Nat → Hp → Prop, (∃ m, W 0 m (upd H0 D (.lst []))) ∧ ∀ i m H, W i m H →
          (J.stop i H ∧ Q (.ref D) H) ∨ (J.go i H ∧ ∃ Nx : Hp → Prop, (∀ H', Nx H' → ∃ m', m' < m ∧ W (i + 1) m' H') ∧ ∀ x H', J.yld i H x H' → g x (wipe σ vs) H' fun σ2 H2 => wipe σ2 vs = wipe σ vs ∧ tt σ2 H2 fun b H3 =>
            if b = true then te σ2 H3 fun y H4 => ∃ acc, H4 D = some (.lst acc) ∧ acc.length < sizeLine ∧ Nx (upd H4 D (.lst (acc ++ [y]))) else Nx H3) := by
  refine ⟨fun v σ H Q => ∃ y : Zc × List Sl × D × (List Sl → Prop), (∀ (s : Shared) (Hb : Hp) (C : Addr) (cl : List (Str × Addr)) (fp : List Addr), GC (Cx.cb X scope s Hb C cl fp) y.1 y.2.1 tg y.2.2.1 vs y.2.2.2) ∧ tcOf X.K y.1 y.2.1 y.2.2.1 vs y.2.2.2 v σ H Q,
    fun σ H Q => ∃ y : Zc × List Sl × (Bool → List Sl → Prop), (∀ (s : Shared) (Hb : Hp) (C : Addr) (cl : List (Str × Addr)) (fp : List Addr), TC (Cx.cb X scope s Hb C cl fp) y.1 y.2.1 ifs y.2.2) ∧ ttOf X.K y.1 y.2.1 y.2.2 σ H Q,
    fun σ H Q => ∃ y : Zc × List Sl × (Rv → List Sl → Prop), (∀ (s : Shared) (Hb : Hp) (C : Addr) (cl : List (Str × Addr)) (fp : List Addr), EW (Cx.cb X scope s Hb C cl fp) y.1 y.2.1 elt y.2.2) ∧ tOf X.K y.1 y.2.1 y.2.2 σ H Q,
    fun s H C cl fp => pg_ex fun y hy => hy s H C cl fp, fun s H C cl fp => pts_ex fun y hy => hy s H C cl fp, fun s H C cl fp => pe_ex fun y hy => hy s H C cl fp, ?_⟩
  intro σ H0 M0 Γ0 n item J ⟨I, i0, turn, fin⟩ A0 wk Q k L hL
  let St : Nat → Hp → Prop := fun i H => ∃ us acc Γ M, H L = some (.lst us) ∧ I i acc Γ ∧ As X.K Z M Γ σ (wo L H) ∧ Tr Z M0 H0 M (wo L H) ∧ Reps X.K (Hd (Un M Z.B) (wo L H)) us acc
  refine ⟨fun i m H => m = n - i ∧ i ≤ n ∧ St i H, ⟨n, rfl, Nat.zero_le _, [], [], Γ0, M0, upd_same, i0, by rw [wo_upd, wo_self hL]; exact A0, by rw [wo_upd, wo_self hL]; exact Tr.refl _ _ _, .nil⟩, ?_⟩
  rintro i m H ⟨rfl, hi, us, acc, Γ, M, hH, ii, A, T, rs⟩
  have hLn : wo L H L = none := wo_D
  obtain ⟨A1, T1⟩ := A.alloc (o := .lst us) hLn
  rw [upd_wo hH] at A1 T1
  obtain ⟨w1, w2⟩ := wk i _ Γ σ H A1 (T.trans T1)
  by_cases lt : i < n
  · obtain ⟨go, it⟩ := w1 lt
    obtain ⟨hno, tu⟩ := turn i acc Γ lt ii
    refine .inr ⟨go, St (i + 1), fun H' q => ⟨n - (i + 1), by omega, rfl, lt, q⟩, fun x H' y => ?_⟩
    obtain ⟨eh, rx⟩ := it x H' y
    have hH' : H' L = some (.lst us) := eh _ _ hH
    have ew : Ext (wo L H) (wo L H') := fun a o h => by
      have ne : a ≠ L := fun e => by rw [e, wo_D] at h; cases h
      rw [wo_ne ne] at h ⊢
      exact eh a o h
    obtain ⟨A2, T2⟩ := A.grow ew
    have rx' : Rep X.K (Hd (Un M Z.B) (wo L H')) x (item i) := rx.mono (Hd_mono fun a o h nn => by
      have ne : a ≠ L := fun e => nn (.inl (.inr e))
      exact ⟨fun q => nn (q.elim (fun q => .inl (.inl q)) .inr), by rw [wo_ne ne]; exact h⟩)
    obtain ⟨hb, hm, hd, A3, conv⟩ := (A2.wipe vs).inn hH'
    refine ⟨(_, _, item i, LcG X elt ifs scope I i acc Γ _), fun s Hb C cl fp => tu _ s Hb C cl fp, M, A3, conv rx', fun Γ2 M2 σ2 H2 tc A4 T4 hw => ?_⟩
    rw [wipe_wipe] at hw
    refine ⟨hw, (_, Γ2, LcT X elt scope I i acc Γ _), fun s Hb C cl fp => tc s Hb C cl fp, M2, A4, fun b Γ3 M3 H3 ⟨n1, n2⟩ A5 T5 => ?_⟩
    cases b with
    | true =>
      rw [if_pos rfl]
      refine ⟨(_, Γ3, LcE I i acc Γ), fun s Hb C cl fp => n1 rfl s Hb C cl fp, M3, A5, fun r v Γ4 M4 H4 n4 A6 T6 q6 => ?_⟩
      obtain ⟨M5, d, Γ5, A7, T7, q7, okb, hlen, iN⟩ := A6.im (k := fun d Γ5 => okBack 0 Γ Γ5 ∧ acc.length < 100000 ∧ I (i + 1) (acc ++ [d]) (backA 0 Γ Γ5)) q6 n4
      obtain ⟨hL4, A8, T8, cv⟩ := A2.out hH' A7 (((T4.trans T5).trans T6).trans T7) hw hno okb
      refine ⟨us, hL4, by rw [rs.length, sizeLine_eq]; omega, us ++ [v], acc ++ [d], _, M5, upd_same, iN, by rw [wo_upd]; exact A8, by rw [wo_upd]; exact (T.trans T2).trans T8, ?_⟩
      rw [wo_upd]
      exact (Reps.mono (T2.trans T8).s rs).append (.cons (cv q7) .nil)
    | false =>
      rw [if_neg Bool.false_ne_true]
      obtain ⟨okb, iN⟩ := n2 rfl
      obtain ⟨hL4, A8, T8, cv⟩ := A2.out hH' A5 (T4.trans T5) hw hno okb
      exact ⟨us, acc, _, M3, hL4, iN, A8, (T.trans T2).trans T8, Reps.mono (T2.trans T8).s rs⟩
  · have e : i = n := by omega
    subst e
    refine .inl ⟨w2 (Nat.le_refl _), k _ _ _ _ _ (fin acc Γ ii) A1 (T.trans T1) ⟨L, .lst us, rfl, .inr rfl, A.fresh0 hLn, hH, .lst (Reps.mono T1.s rs), fun j oa => (OwnAt.get A oa).2 hLn⟩⟩
theorem ew_lc {ifs : List Expr} {scope : Scope} {own : List (Str × Nat)} (hc : X.calm = true) (hN : X.N.Nodup) (ok : BlkOk X.N X.env.scope scope own) (h : IW X Z Γ tg iter (LcOK X elt tg ifs scope (own.map (·.2)) N))
    (hs : ∀ x, foldedSetIterable iter X.env x = pure x := by intro _; rfl) : EW X Z Γ (.ListComp elt [⟨tg, iter, ifs, 0⟩] scope pos) N := by
  obtain ⟨g, tt, te, hg, ht, he, q⟩ := lc_parts (X := X) (Z := Z) (N := N) (elt := elt) (tg := tg) (ifs := ifs) (scope := scope) (vs := own.map (·.2))
  refine pe_imp (pe_lc hc hN h ok hg ht he hs) fun σ H Q ⟨M, A, k⟩ => ?_
  exact ⟨M, A, fun n item Γ1 M1 H1 J lo A1 T1 wk => q lo A1 wk Q fun r v Γ' M' H' n A' T' q => k r v Γ' M' H' n A' (T1.trans T') q⟩
end
end Lw

namespace Lw
open PySem L2 PyProof.Rows
section
variable {X : L2.Cx} {Z : Zc} {Γ : List Sl} {N : Rv → List Sl → Prop} {a b c e o i : Expr} {es : List Expr} {pos apos : Pos} {P : Po} {K : PySem.W.Frag}
/-! ### names of classes -/
theorem ew_ty {x : Str} {n : String} (hm : X.mg x = none) (hv : bootBuiltins x = some (.type n)) (h : N (.d (.ty n)) Γ) (hg : Gl X x := by rfl) (hn : x ≠ "__name__" := by decide) (hd : (x == ("__debug__" : Str)) = false := by decide) : EW X Z Γ (.Name x pos) N :=
  pe_imp (pe_bltn (v := .ty n) hg hm hv rfl hn hd) fun σ H Q ⟨M, A, k⟩ => k _ _ Γ M H h A (Tr.refl _ _ _) (Rep.ty n)
theorem ew_cls {x : Str} {C : Addr} (hm : X.mg x = some (.ref C)) (h : N (.d (.cls C)) Γ) (hg : Gl X x := by rfl) (hd : (x == ("__debug__" : Str)) = false := by decide) : EW X Z Γ (.Name x pos) N :=
  pe_imp (pe_glob (v := .ref C) hg hm rfl hd) fun σ H Q ⟨M, A, k⟩ => k _ _ Γ M H h A (Tr.refl _ _ _) (Rep.cls C)
theorem ew_gint {x : Str} {n : Int} {t : Tok} (hm : X.mg x = some (.int n t)) (h : N (.d (.int n)) Γ) (hg : Gl X x := by rfl) (hd : (x == ("__debug__" : Str)) = false := by decide) : EW X Z Γ (.Name x pos) N :=
  pe_imp (pe_glob (v := .int n) hg hm ⟨t, rfl⟩ hd) fun σ H Q ⟨M, A, k⟩ => k _ _ Γ M H h A (Tr.refl _ _ _) (Rep.int n)
/-! ### is -/
theorem op_isBx : OpR X (compareOp .Is) (fun x y H Q => ∃ b : Bool, y = .bl b ∧ Q (.bl (decide (x = .bl b))) H) := by
  intro pins s σ H x y v u Q I rx ry h
  obtain ⟨b, rfl, q⟩ := h
  cases (show u = Value.bool b from ry)
  have other : v ≠ .bool b → plainIs v (.bool b) = true → x ≠ .bl b → wpAny (model X.prog X.w) X.A (compareOp .Is v (.bool b)) (EP X pins σ Q) X.xe s := fun hn hp hx => wpAny_is_other hp hn ⟨.bl false, H, I, rfl, by simpa [hx] using q⟩
  cases x with
  | bl c =>
    cases (show v = Value.bool c from rx)
    by_cases e : c = b
    · subst e
      exact wpAny_is_self rfl ⟨.bl true, H, I, rfl, by simpa using q⟩
    · exact other (fun z => e (Value.bool.inj z)) rfl (fun z => e (V.bl.inj z))
  | non => cases (show v = Value.none from rx); exact other (fun z => nomatch z) rfl (fun z => nomatch z)
  | int n => obtain ⟨t, e⟩ := (show ∃ t, v = Value.int n t from rx); subst e; exact other (fun z => nomatch z) rfl (fun z => nomatch z)
  | str n => obtain ⟨t, e⟩ := (show ∃ t, v = Value.str n t from rx); subst e; exact other (fun z => nomatch z) rfl (fun z => nomatch z)
  | byt n => obtain ⟨t, e⟩ := (show ∃ t, v = Value.bytes n t from rx); subst e; exact other (fun z => nomatch z) rfl (fun z => nomatch z)
  | flt n => obtain ⟨t, e⟩ := (show ∃ t, v = Value.float n t from rx); subst e; exact other (fun z => nomatch z) rfl (fun z => nomatch z)
  | ref n => cases (show v = Value.ref n from rx); exact other (fun z => nomatch z) rfl (fun z => nomatch z)
  | ty n => cases (show v = Value.type n from rx); exact other (fun z => nomatch z) rfl (fun z => nomatch z)
def D.isNon : D → Bool
  | .non => true
  | _ => false
def D.isBl (b : Bool) : D → Bool
  | .bl c => c == b
  | _ => false
theorem non_dec {H Hs : Hp} {v : V} {d : D} (h : Rep1 K H Hs v d) : decide (v = .non) = d.isNon := by
  have hr : ∀ {w : V}, Rep K Hs w d → decide (w = .non) = d.isNon := fun {w} h => by
    cases h with
    | non => rfl
    | bl => rfl
    | int => rfl
    | str => rfl
    | ty => rfl
    | cls => rfl
    | ref s h => cases h <;> rfl
    | scr s h => rfl
  rcases h with h | ⟨a, o, e, s, h⟩
  · exact hr h
  · subst e; cases h <;> rfl
theorem bl_dec {H Hs : Hp} {v : V} {d : D} {b : Bool} (h : Rep1 K H Hs v d) : decide (v = .bl b) = d.isBl b := by
  have hr : ∀ {w : V}, Rep K Hs w d → decide (w = .bl b) = d.isBl b := fun {w} h => by
    cases h with
    | non => rfl
    | bl c => cases c <;> cases b <;> rfl
    | int => rfl
    | str => rfl
    | ty => rfl
    | cls => rfl
    | ref s h => cases h <;> rfl
    | scr s h => rfl
  rcases h with h | ⟨a, o, e, s, h⟩
  · exact hr h
  · subst e; cases h <;> rfl
theorem o2_isN {d : D} : Op2 K (fun x y H Q => y = .non ∧ Q (.bl (decide (x = .non))) H) d .non (.sc (.bl d.isNon)) := fun H Hs x u v Q h1 h2 q => ⟨h2.non_inv, by rw [non_dec h1]; exact q _ _ (.inl ⟨rfl, .bl _⟩)⟩
theorem o2_notN {d : D} : Op2 K (fun x y H Q => y = .non ∧ Q (.bl (!decide (x = .non))) H) d .non (.sc (.bl (!d.isNon))) := fun H Hs x u v Q h1 h2 q => ⟨h2.non_inv, by rw [non_dec h1]; exact q _ _ (.inl ⟨rfl, .bl _⟩)⟩
theorem o2_isB {d : D} {b : Bool} : Op2 K (fun x y H Q => ∃ b : Bool, y = .bl b ∧ Q (.bl (decide (x = .bl b))) H) d (.bl b) (.sc (.bl (d.isBl b))) := fun H Hs x u v Q h1 h2 q => ⟨b, h2.bl_inv, by rw [bl_dec h1]; exact q _ _ (.inl ⟨rfl, .bl _⟩)⟩
/-! ### isinstance -/
/-- what isinstance asks of an own class -/
structure ClsI (K : PySem.W.Frag) (C : Addr) : Prop where
  cl : Cls K C
  ha : PySem.W.findIn K (.ref C) "__class__" = some (some (.builtin "object.__class__"))
  hn : PySem.W.specialIn K (.builtin "object.__class__") "__get__" = some (some (.builtin "getset_descriptor.__get__"))
  htk : PySem.W.takesIn K (.builtin "object.__class__") = some true
  hm : PySem.W.mroIn K C (.type "object") = some true
def TyD (K : PySem.W.Frag) : D → Value → Prop
  | .non, t => t = .type "NoneType"
  | .bl _, t => t = .type "bool"
  | .int _, t => t = .type "int"
  | .str _, t => t = .type "str"
  | .lst _, t => t = .type "list"
  | .tup _, t => t = .type "tuple"
  | .obj C _, t => t = .ref C ∧ ClsI K C
  | _, _ => False
theorem tyx_tup {H : Hp} {a : Addr} {vs : List V} (s : SqT K H a vs) : TyX K H (.ref a) (.type "tuple") := by
  rcases s with (s | ⟨o, s⟩) | ⟨o, its, n, s, hc, _⟩
  · exact .base (.tup s)
  · exact .fTuple s
  · exact .kTuple s hc
theorem TyD.ok {H Hs : Hp} {v : V} {d : D} {t : Value} (x : Ext Hs H) (h : Rep1 K H Hs v d) (ht : TyD K d t) : TyX K H v t := by
  cases d with
  | non => cases ht; rw [h.non_inv]; exact .base .non
  | bl b => cases ht; rw [h.bl_inv]; exact .base (.bl b)
  | int b => cases ht; rw [h.int_inv]; exact .base (.int b)
  | str b => cases ht; rw [h.str_inv]; exact .base (.str b)
  | lst xs => cases ht; obtain ⟨a, vs, e, s, _⟩ := h.lst_inv x; subst e; exact .base (.lst s)
  | tup xs => cases ht; obtain ⟨a, vs, e, s, _⟩ := h.tup_inv x; subst e; exact tyx_tup s
  | obj C fs =>
    obtain ⟨e, c⟩ := ht
    subst e
    obtain ⟨a, dx, gs, e, s, _⟩ := h.obj_inv x
    subst e
    exact .base (.ins s c.cl c.ha c.hn c.htk c.hm)
  | scr _ => exact ht.elim
  | ty _ => exact ht.elim
  | cls _ => exact ht.elim
def ClsD : D → Option Value
  | .ty n => some (.type n)
  | .cls C => some (.ref C)
  | _ => none
theorem ClsD.ok {H Hs : Hp} {v : V} {d : D} {u : Value} (h : Rep1 K H Hs v d) (hd : ClsD d = some u) : ClsV v u := by
  have hr : ∀ {w : V}, Rep K Hs w d → ClsV w u := fun {w} h => by
    cases d with
    | ty n =>
      cases hd
      cases h with
      | ty => exact .ty n
      | ref s h => cases h
    | cls C =>
      cases hd
      cases h with
      | cls => exact .own C
      | ref s h => cases h
    | _ => cases hd
  rcases h with h | ⟨a, o, e, s, h⟩
  · exact hr h
  · cases d <;> first | (cases h; done) | (cases hd; done)
theorem on_isi {d cd : D} {t u : Value} {b : Bool} (ht : TyD K d t) (hu : ClsD cd = some u) (hk : PySem.W.kitOne K t u = some b) : OpN K (rIsi K) [d, cd] (.sc (.bl b)) := fun H Hs x vs Q r q => by
  obtain ⟨v, w, e, r1, r2⟩ := r.two
  subst e
  exact ⟨v, w, t, u, b, rfl, ClsD.ok r2 hu, TyD.ok x r1 ht, hk, q _ _ (.inl ⟨rfl, .bl _⟩)⟩
/-! ### lists: in, +, *, slices, sorted -/
theorem reps_ints {Hs : Hp} : ∀ {ns : List Int} {vs : List V}, Reps K Hs vs (ns.map D.int) → vs = ns.map V.int
  | [], _, .nil => rfl
  | n :: ns, _, .cons a b => by rw [a.int_inv, reps_ints b]; rfl
theorem ints_reps {Hs : Hp} : ∀ (ns : List Int), Reps K Hs (ns.map V.int) (ns.map D.int)
  | [] => .nil
  | n :: ns => .cons (.int n) (ints_reps ns)
theorem flat_ints (ns : List Int) : (ns.map V.int).all flatV = true := by simp [List.all_eq_true, flatV]
theorem inV_ints {n : Int} {ns : List Int} : inV (.int n) (ns.map V.int) = decide (n ∈ ns) := by
  unfold inV
  induction ns with
  | nil => simp
  | cons m ns ih =>
    rw [List.map_cons, List.any_cons, ih]
    have : eqV (.int m) (.int n) = decide (n = m) := by
      show (m == n) = _
      by_cases h : m = n
      · subst h; simp
      · rw [beq_eq_false_iff_ne.mpr h, decide_eq_false (fun q => h q.symm)]
    rw [this]
    by_cases h : n = m <;> simp [h]
theorem o2_inI {n : Int} {ns : List Int} : Op2 K (rIn K false) (.int n) (.lst (ns.map D.int)) (.sc (.bl (decide (n ∈ ns)))) := fun H Hs x u v Q h1 h2 q => by
  obtain ⟨a, vs, e, s, r⟩ := h2.lst_inv x
  have := reps_ints r; subst this
  rw [h1.int_inv]
  exact ⟨a, _, e, .inl (SqL.of s), rfl, flat_ints ns, by rw [inV_ints]; exact q _ _ (.inl ⟨rfl, .bl _⟩)⟩
theorem o2_ninI {n : Int} {ns : List Int} : Op2 K (rIn K true) (.int n) (.lst (ns.map D.int)) (.sc (.bl (!decide (n ∈ ns)))) := fun H Hs x u v Q h1 h2 q => by
  obtain ⟨a, vs, e, s, r⟩ := h2.lst_inv x
  have := reps_ints r; subst this
  rw [h1.int_inv]
  exact ⟨a, _, e, .inl (SqL.of s), rfl, flat_ints ns, by rw [inV_ints]; exact q _ _ (.inl ⟨rfl, .bl _⟩)⟩
theorem o2_inIt {n : Int} {ns : List Int} : Op2 K (rIn K false) (.int n) (.tup (ns.map D.int)) (.sc (.bl (decide (n ∈ ns)))) := fun H Hs x u v Q h1 h2 q => by
  obtain ⟨a, vs, e, s, r⟩ := h2.tup_inv x
  have := reps_ints r; subst this
  rw [h1.int_inv]
  exact ⟨a, _, e, .inr s, rfl, flat_ints ns, by rw [inV_ints]; exact q _ _ (.inl ⟨rfl, .bl _⟩)⟩
theorem o2_cat {xs ys : List D} (hl : xs.length + ys.length ≤ 100000) : Op2 K rCat (.lst xs) (.lst ys) (.nw (.lst (xs ++ ys))) := fun H Hs x u v Q h1 h2 q => by
  obtain ⟨a, vs, e, s, r⟩ := h1.lst_inv x
  obtain ⟨b, ws, e', s', r'⟩ := h2.lst_inv x
  exact ⟨a, b, vs, ws, e, e', s, s', by rw [r.length, r'.length, sizeLine_eq]; omega, fun p hp => q _ _ ⟨p, _, rfl, hp, rfl, .lst (r.append r')⟩⟩
theorem reps_rep {Hs : Hp} {vs : List V} {ds : List D} (r : Reps K Hs vs ds) : ∀ n, Reps K Hs (List.replicate n vs).flatten (List.replicate n ds).flatten
  | 0 => .nil
  | n + 1 => by rw [List.replicate_succ, List.replicate_succ, List.flatten_cons, List.flatten_cons]; exact r.append (reps_rep r n)
theorem o2_rep {xs : List D} {k : Int} (h0 : -(2 ^ 63) ≤ k) (h1 : k < 2 ^ 63) (hl : xs.length * k.toNat ≤ 100000) : Op2 K rRep (.lst xs) (.int k) (.nw (.lst (List.replicate k.toNat xs).flatten)) := fun H Hs x u v Q h1' h2 q => by
  obtain ⟨a, vs, e, s, r⟩ := h1'.lst_inv x
  exact ⟨a, k, vs, e, h2.int_inv, s, h0, h1, by rw [r.length, sizeLine_eq]; omega, fun p hp => q _ _ ⟨p, _, rfl, hp, rfl, .lst (reps_rep r _)⟩⟩
/-- the sorted list -/
def srt (ns : List Int) : List Int := ns.mergeSort fun a b => decide (a ≤ b)
theorem srt_eq {ns ms : List Int} (hp : ms.Perm ns) (hs : ms.Pairwise (· ≤ ·)) : ms = srt ns := by
  have h1 : (srt ns).Perm ns := List.mergeSort_perm _ _
  have h2 : (srt ns).Pairwise (fun a b => decide (a ≤ b) = true) := List.pairwise_mergeSort (fun a b c h1 h2 => by simp at h1 h2 ⊢; omega) (fun a b => by simp; omega) _
  have h3 : (srt ns).Pairwise (· ≤ ·) := h2.imp fun h => by simpa using h
  exact (hp.trans h1.symm).eq_of_pairwise (fun a b _ _ h1 h2 => Int.le_antisymm h1 h2) hs h3
theorem on_sorted {ns : List Int} : OpN K (rSortedI K) [.lst (ns.map D.int)] (.nw (.lst ((srt ns).map D.int))) := fun H Hs x vs Q r q => by
  obtain ⟨v, e, r⟩ := r.one
  obtain ⟨a, ws, e2, s, rr⟩ := r.lst_inv x
  have := reps_ints rr; subst this
  subst e; subst e2
  refine ⟨a, ns, rfl, SqL.of s, fun ns' p hp hs hn => ?_⟩
  rw [srt_eq hp hs]
  exact q _ _ ⟨p, _, rfl, hn, rfl, .lst (ints_reps _)⟩
theorem ew_rev {k : Nat} {p1 p2 p3 : Pos} (h : EW X Z Γ e fun r Γ1 => ∃ xs, view Γ1 r = some (.lst xs) ∧ N (.new (.lst xs.reverse)) Γ1) : EW X Z Γ (.Subscript e (.Slice none none (some (.UnaryOp .USub (.Constant (.int 1) k p1) p2)) p3) pos) N := by
  refine pe_imp (pe_revL h) fun σ H Q ⟨M, A, k⟩ => ?_
  refine ⟨M, A, fun r v Γ1 M1 H1 ⟨xs, w, n⟩ A1 T1 q1 => ?_⟩
  obtain ⟨a, vs, e, s, rr⟩ := (A1.view q1 w).lst_inv A1.ext
  refine ⟨a, vs, e, SqL.of s, fun p hp => ?_⟩
  obtain ⟨M2, A2, T2, rz⟩ := A1.rs (z := .ref p) (rs := .nw (.lst xs.reverse)) ⟨p, _, rfl, hp, rfl, .lst rr.reverse⟩
  exact k _ _ _ M2 _ n A2 (T1.trans T2) rz
/-! slices -/
def toOf (K : PySem.W.Frag) (Z : Zc) (Γ : List Sl) (N : Option Int → List Sl → Prop) : TO := fun σ H Q => ∃ M, As K Z M Γ σ H ∧ ∀ r Γ' M' H', N r Γ' → As K Z M' Γ' σ H' → Tr Z M H M' H' → Q r H'
abbrev OW (X : L2.Cx) (Z : Zc) (Γ : List Sl) (o : Option Expr) (N : Option Int → List Sl → Prop) : Prop := PO X o (toOf X.K Z Γ N)
theorem po_imp {o : Option Expr} {t t' : TO} (h : PO X o t) (i : ∀ σ H Q, t' σ H Q → t σ H Q) : PO X o t' := ⟨fun pins s σ H Q I w => h.run pins s σ H Q I (i _ _ _ w)⟩
theorem po_ex {ι : Type} {p : ι → Prop} {o : Option Expr} {t : ι → TO} (h : ∀ i, p i → PO X o (t i)) : PO X o (fun σ H Q => ∃ i, p i ∧ t i σ H Q) := ⟨fun pins s σ H Q I ⟨i, hi, w⟩ => (h i hi).run pins s σ H Q I w⟩
variable {NO : Option Int → List Sl → Prop} {lo hi : Option Expr} {p2 : Pos}
theorem ow_none (h : NO none Γ) : OW X Z Γ none NO := po_imp po_none fun σ H Q ⟨M, A, k⟩ => k _ _ _ _ h A (Tr.refl _ _ _)
theorem ow_some (h : EW X Z Γ e fun r Γ1 => ∃ i, view Γ1 r = some (.int i) ∧ NO (some i) Γ1) : OW X Z Γ (some e) NO := po_imp (po_some h) fun σ H Q ⟨M, A, k⟩ => ⟨M, A, fun r v Γ1 M1 H1 ⟨i, w, n⟩ A1 T1 q1 => ⟨i, Rep1.int_inv (A1.view q1 w), k _ _ _ _ n A1 T1⟩⟩
def SlOp (K : PySem.W.Frag) (r : V → Option Int → Option Int → Hp → VK → Prop) (d : D) (l u : Option Int) (rs : Rs) : Prop := ∀ H Hs, Ext Hs H → ∀ x Q, Rep1 K H Hs x d → (∀ z H', RsOK K Hs H z H' rs → Q z H') → r x l u H Q
theorem ew_sl {r : V → Option Int → Option Int → Hp → VK → Prop} (hr : SlR X r) (h : EW X Z Γ e fun r1 Γ1 => Fz r1 Γ1 fun r1 Γ1 => OW X Z Γ1 lo fun l Γ2 => OW X Z Γ2 hi fun u Γ3 => ∃ d rs, view Γ3 r1 = some d ∧ SlOp X.K r d l u rs ∧ N rs.rv Γ3) : EW X Z Γ (.Subscript e (.Slice lo hi none p2) pos) N := by
  let N3 : Rv → Option Int → Option Int → List Sl → Prop := fun r1 l u Γ3 => ∃ d rs, view Γ3 r1 = some d ∧ SlOp X.K r d l u rs ∧ N rs.rv Γ3
  let N2 : Rv → Option Int → List Sl → Prop := fun r1 l Γ2 => OW X Z Γ2 hi (N3 r1 l)
  have hl : PO X lo (fun σ H Q => ∃ y : Rv × List Sl, OW X Z y.2 lo (N2 y.1) ∧ toOf X.K Z y.2 (N2 y.1) σ H Q) := po_ex fun _ hi => hi
  have hh : PO X hi (fun σ H Q => ∃ y : Rv × Option Int × List Sl, OW X Z y.2.2 hi (N3 y.1 y.2.1) ∧ toOf X.K Z y.2.2 (N3 y.1 y.2.1) σ H Q) := po_ex fun _ hi => hi
  refine pe_imp (pe_slice hr h hl hh) fun σ H Q ⟨M, A, k⟩ => ?_
  refine ⟨M, A, fun r1 v1 Γ1 M1 H1 n1 A1 T1 q1 => ?_⟩
  obtain ⟨M2, r', A2, T2, q2, nn, n2⟩ := A1.fz' q1 n1
  refine ⟨(r', Γ1), n2, M2, A2, fun l Γ2 M3 H3 n3 A3 T3 => ⟨(r', l, Γ2), n3, M3, A3, fun u Γ3 M4 H4 ⟨d, rs, w, ho, n⟩ A4 T4 => ?_⟩⟩
  refine ho H4 _ A4.ext v1 Q (A4.view ((q2.tr (Γ' := Γ2) T3 nn).tr (Γ' := Γ3) T4 nn) w) fun z H' q => ?_
  obtain ⟨M5, A5, T5, rz⟩ := A4.rs q
  exact k _ z _ M5 H' n A5 ((((T1.trans T2).trans T3).trans T4).trans T5) rz
/-- the cut -/
def cut (xs : List D) (lo hi : Option Int) : List D := (xs.drop (HT.sIx xs.length 0 lo)).take (HT.sIx xs.length xs.length hi - HT.sIx xs.length 0 lo)
theorem so_lst {xs : List D} {l u : Option Int} : SlOp K (rSlL K) (.lst xs) l u (.nw (.lst (cut xs l u))) := fun H Hs x v Q h q => by
  obtain ⟨a, vs, e, s, r⟩ := h.lst_inv x
  refine ⟨a, vs, e, SqL.of s, fun p hp => q _ _ ⟨p, _, rfl, hp, rfl, .lst ?_⟩⟩
  unfold cutV cut
  rw [r.length]
  exact (r.drop _).take _
/-! ### == of data -/
mutual
def toP : D → PyData
  | .non => .none
  | .bl b => .bool b
  | .int i => .int i
  | .str x => .str x
  | .lst xs => .list (toPs xs)
  | .tup xs => .tuple (toPs xs)
  | .obj _ _ => .none
  | .scr _ => .none
  | .ty _ => .none
  | .cls _ => .none
def toPs : List D → List PyData
  | [] => []
  | x :: xs => toP x :: toPs xs
end
mutual
def okP : D → Bool
  | .lst xs => okPs xs
  | .tup xs => okPs xs
  | .obj _ _ => false
  | .scr _ => false
  | .ty _ => false
  | .cls _ => false
  | _ => true
def okPs : List D → Bool
  | [] => true
  | x :: xs => okP x && okPs xs
end
mutual
theorem Rep.dp {Hs : Hp} : ∀ (d : D) {v : V}, Rep K Hs v d → okP d = true → Dp K Hs v (toP d)
  | .non, _, h, _ => by rw [h.non_inv]; unfold toP; exact .non
  | .bl b, _, h, _ => by rw [h.bl_inv]; unfold toP; exact .bl b
  | .int i, _, h, _ => by rw [h.int_inv]; unfold toP; exact .int i
  | .str x, _, h, _ => by rw [h.str_inv]; unfold toP; exact .str x
  | .ty _, _, _, k => by unfold okP at k; cases k
  | .cls _, _, _, k => by unfold okP at k; cases k
  | .scr _, _, _, k => by unfold okP at k; cases k
  | .obj _ _, _, _, k => by unfold okP at k; cases k
  | .lst xs, _, h, k => by
    obtain ⟨a, vs, e, s, r⟩ := h.lst_inv
    subst e
    unfold okP at k; unfold toP
    exact .lst (SqL.of s) (Reps.dp xs r k)
  | .tup xs, _, h, k => by
    obtain ⟨a, vs, e, s, r⟩ := h.tup_inv
    subst e
    unfold okP at k; unfold toP
    exact .tup s (Reps.dp xs r k)
theorem Reps.dp {Hs : Hp} : ∀ (ds : List D) {vs : List V}, Reps K Hs vs ds → okPs ds = true → DpAll K Hs vs (toPs ds)
  | [], _, .nil, _ => by unfold toPs; exact .nil
  | d :: ds, _, .cons a b, k => by
    unfold okPs at k; unfold toPs
    have k' := Bool.and_eq_true_iff.mp k
    exact .cons (Rep.dp d a k'.1) (Reps.dp ds b k'.2)
end
mutual
theorem Dp.mono {H H' : Hp} (e : Ext H H') : ∀ {v : V} {d : PyData}, Dp K H v d → Dp K H' v d
  | _, _, .non => .non
  | _, _, .bl b => .bl b
  | _, _, .int b => .int b
  | _, _, .str b => .str b
  | _, _, .lst s r => .lst (Ext.l e s) (DpAll.mono e r)
  | _, _, .tup s r => .tup (Ext.t e s) (DpAll.mono e r)
theorem DpAll.mono {H H' : Hp} (e : Ext H H') : ∀ {vs : List V} {ds : List PyData}, DpAll K H vs ds → DpAll K H' vs ds
  | _, _, .nil => .nil
  | _, _, .cons a b => .cons (Dp.mono e a) (DpAll.mono e b)
end
theorem Rep1.dp {H Hs : Hp} {v : V} {d : D} (x : Ext Hs H) (h : Rep1 K H Hs v d) (ok : okP d = true) : Dp K H v (toP d) := by
  rcases h with h | ⟨a, o, e, s, h⟩
  · exact Dp.mono x (Rep.dp d h ok)
  · subst e
    cases h with
    | lst r => unfold toP; unfold okP at ok; exact .lst (SqL.of s) (DpAll.mono x (Reps.dp _ r ok))
    | tup r => unfold toP; unfold okP at ok; exact .tup s (DpAll.mono x (Reps.dp _ r ok))
    | ins r => unfold okP at ok; cases ok
theorem o2_eqD {d1 d2 : D} (k1 : okP d1 = true) (k2 : okP d2 = true) (s1 : SeqAt.shaped (toP d1) = true) (s2 : SeqAt.shaped (toP d2) = true) : Op2 K (rEqD K) d1 d2 (.sc (.bl (PyData.eqv (toP d1) (toP d2)))) := fun H Hs x u v Q h1 h2 q => ⟨_, _, h1.dp x k1, h2.dp x k2, s1, s2, q _ _ (.inl ⟨rfl, .bl _⟩)⟩
theorem o2_neD {d1 d2 : D} (k1 : okP d1 = true) (k2 : okP d2 = true) (s1 : SeqAt.shaped (toP d1) = true) (s2 : SeqAt.shaped (toP d2) = true) : Op2 K (rNeD K) d1 d2 (.sc (.bl (!PyData.eqv (toP d1) (toP d2)))) := fun H Hs x u v Q h1 h2 q => ⟨_, _, h1.dp x k1, h2.dp x k2, s1, s2, q _ _ (.inl ⟨rfl, .bl _⟩)⟩
end
end Lw

namespace Lw
open PySem L2 PyProof.Rows
section
variable {K : PySem.W.Frag} {Z : Zc} {M : Addr → Prop} {Γ : List Sl} {σ : L2.St} {H : Hp}
/-! ### a new instance -/
theorem get_app {α : Type} {l : List α} {x y : α} {i : Nat} (h : (l ++ [x])[i]? = some y) : (l[i]? = some y ∧ i < l.length) ∨ (i = l.length ∧ y = x) := by
  rw [List.getElem?_append] at h
  split at h
  · rename_i q; exact .inl ⟨h, q⟩
  · rename_i q
    right
    have e : i - l.length = 0 := by
      rcases Nat.lt_or_ge 0 (i - l.length) with z | z
      · rw [List.getElem?_eq_none (by simp; omega)] at h; cases h
      · omega
    rw [e] at h
    exact ⟨by omega, by simpa using h.symm⟩
/-- a new object in one more slot -/
theorem As.push (A : As K Z M Γ σ H) {a : Addr} {o : HO} {d : D} (m : M a) (z : Z.H0 a = none) (ho : H a = some o) (r : HRep K (Hd (Un M Z.B) H) o d) (n : ∀ i, ¬ OwnAt Γ σ i a) : As K Z M (Γ ++ [.ow d]) (σ ++ [some (.ref a)]) H := by
  have own : ∀ {i b}, OwnAt (Γ ++ [.ow d]) (σ ++ [some (.ref a)]) i b → OwnAt Γ σ i b ∨ (i = Γ.length ∧ b = a) := fun {i b} ⟨s, h1, h2, h3⟩ => by
    rcases get_app h1 with ⟨e, l⟩ | ⟨e, es⟩
    · rw [List.getElem?_append_left (by rw [A.len]; exact l)] at h3
      exact .inl ⟨s, e, h2, h3⟩
    · subst e
      rw [← A.len] at h3
      simp at h3
      exact .inr ⟨rfl, h3.symm⟩
  refine ⟨by simp [A.len], fun i s ov h1 h2 => ?_, fun i j b h1 h2 => ?_, A.fr, A.m0, A.mf, A.ml⟩
  · rcases get_app h1 with ⟨e, l⟩ | ⟨e, es⟩
    · rw [List.getElem?_append_left (by rw [A.len]; exact l)] at h2
      exact A.rel i s ov e h2
    · subst e; subst es
      rw [← A.len] at h2
      simp at h2
      exact ⟨a, o, h2.symm, m, z, ho, r⟩
  · rcases own h1 with g1 | ⟨e1, b1⟩
    · rcases own h2 with g2 | ⟨e2, b2⟩
      · exact A.dis i j b g1 g2
      · subst b2; exact absurd g1 (n i)
    · rcases own h2 with g2 | ⟨e2, b2⟩
      · subst b1; exact absurd g2 (n j)
      · rw [e1, e2]
/-- .. and the slot gone again -/
theorem As.drop {s : Sl} {ov : Option V} (A : As K Z M (Γ ++ [s]) (σ ++ [ov]) H) : As K Z M Γ σ H := by
  have hl : σ.length = Γ.length := by simpa using A.len
  have own : ∀ {i b}, OwnAt Γ σ i b → OwnAt (Γ ++ [s]) (σ ++ [ov]) i b := fun {i b} ⟨t, h1, h2, h3⟩ => by
    have l : i < Γ.length := by
      rcases Nat.lt_or_ge i Γ.length with q | q
      · exact q
      · rw [List.getElem?_eq_none (by simpa using q)] at h1; cases h1
    exact ⟨t, by rw [List.getElem?_append_left l]; exact h1, h2, by rw [List.getElem?_append_left (by omega)]; exact h3⟩
  refine ⟨hl, fun i t u h1 h2 => ?_, fun i j b h1 h2 => A.dis i j b (own h1) (own h2), A.fr, A.m0, A.mf, A.ml⟩
  have l : i < Γ.length := by
    rcases Nat.lt_or_ge i Γ.length with q | q
    · exact q
    · rw [List.getElem?_eq_none (by simpa using q)] at h1; cases h1
  exact A.rel i t u (by rw [List.getElem?_append_left l]; exact h1) (by rw [List.getElem?_append_left (by omega)]; exact h2)
/-- what is asked of C(..), by the promise of C's __init__ -/
def MakePost {α : Type} (c : Ct α) (C : Addr) (Ex : XEx) (N : Rv → List Sl → Prop) (rs : List Rv) (Γ : List Sl) : Prop :=
  CallPost c (fun D fs Γ'' => ∃ Γ3 s, Γ'' = Γ3 ++ [s] ∧ Ex D fs Γ3) (fun r Γ'' => r = .d .non ∧ ∃ Γ3 gs, Γ'' = Γ3 ++ [.ow (.obj C gs)] ∧ N (.d (.obj C gs)) Γ3) (.own Γ.length :: rs) (Γ ++ [.ow (.obj C [])])
theorem OutQ.imp {M0 B : Addr → Prop} {aft : List Ak} {vs : List V} {Q Q' : VK} {E E' : XK} (hQ : ∀ v H', Q v H' → Q' v H') (hE : ∀ c d H', E c d H' → E' c d H') {o : Ou} (h : OutQ K M0 B H aft vs Q E o) : OutQ K M0 B H aft vs Q' E' o := by
  cases o with
  | ret z =>
    cases z with
    | sc d => exact fun v H' f m r => hQ _ _ (h v H' f m r)
    | nw d => exact fun a o H' f h1 h2 m r => hQ _ _ (h a o H' f h1 h2 m r)
  | exc C fs => exact fun od H' f m x => hE _ _ _ (h od H' f m x)
theorem spC.imp {α : Type} {c : Ct α} {vs : List V} {Q Q' : VK} {E E' : XK} (hQ : ∀ v H', Q v H' → Q' v H') (hE : ∀ c d H', E c d H' → E' c d H') (h : spC K c vs H Q E) : spC K c vs H Q' E' := by
  obtain ⟨y, M0, B, h1, h2, h3, h4, h5, h6, h7⟩ := h
  exact ⟨y, M0, B, h1, h2, h3, h4, h5, h6, fun b hb => (h7 b hb).imp hQ hE⟩
theorem RvsRel.app {s : Sl} {v : V} : ∀ {vs : List V} {rs : List Rv}, RvsRel K Z M Γ σ H vs rs → (∀ r ∈ rs, ∀ d, r ≠ Rv.new d) → RvsRel K Z M (Γ ++ [s]) (σ ++ [some v]) H vs rs
  | _, _, .nil, _ => .nil
  | _, _, .cons (r := r) a b, n => by
    refine .cons ?_ (RvsRel.app b fun r hr => n r (List.mem_cons_of_mem _ hr))
    cases r with
    | d d => exact a
    | bo d => exact a
    | va u => exact a
    | new d => exact absurd rfl (n _ List.mem_cons_self d)
    | own i =>
      have a : σ[i]? = some (some _) := a
      show (σ ++ [some v])[i]? = some (some _)
      have l : i < σ.length := by
        rcases Nat.lt_or_ge i σ.length with q | q
        · exact q
        · rw [List.getElem?_eq_none (by simpa using q)] at a; cases a
      rw [List.getElem?_append_left l]; exact a
theorem make_sp {α : Type} {c : Ct α} {C : Addr} {Ex : XEx} {N : Rv → List Sl → Prop} {rs : List Rv} {vs : List V} (A : As K Z M Γ σ H) (hr : RvsRel K Z M Γ σ H vs rs) (nn : ∀ r ∈ rs, ∀ d, r ≠ Rv.new d) (h : MakePost c C Ex N rs Γ) {Q : VK}
    (k : ∀ r v Γ' M' H', N r Γ' → As K Z M' Γ' σ H' → Tr Z M H M' H' → RvRel K Z M' Γ' σ H' v r → Q v H') {x dx : Addr} (hx : H x = none) (hdx : H dx = none) (ne : dx ≠ x) :
    spC K c (.ref x :: vs) (upd (upd H dx (.own x)) x (.ins C dx [])) (fun v H2 => v = .non ∧ Q (.ref x) H2) (WE (wOf K Z Ex) σ) := by
  obtain ⟨A1, T1⟩ := A.grow (Ext.new (o := .own x) hdx)
  have hx1 : (upd H dx (.own x)) x = none := by rw [upd_ne (Ne.symm ne)]; exact hx
  obtain ⟨A2, T2⟩ := A1.alloc (o := .ins C dx []) hx1
  have nx : ∀ i, ¬ OwnAt Γ σ i x := fun i q => (OwnAt.get A q).2 hx
  have A3 := A2.push (a := x) (o := .ins C dx []) (d := .obj C []) (.inr rfl) (A.fresh0 hx) upd_same (.ins .nil) nx
  have hr2 : RvsRel K Z _ Γ σ _ vs rs := RvsRel.tr (Γ' := Γ) (T1.trans T2) hr nn
  have hr3 := hr2.app (s := .ow (.obj C [])) (v := .ref x) nn
  have h0 : RvRel K Z (fun a => M a ∨ a = x) (Γ ++ [.ow (.obj C [])]) (σ ++ [some (.ref x)]) (upd (upd H dx (.own x)) x (.ins C dx [])) (.ref x) (.own Γ.length) := by
    show (σ ++ [some (V.ref x)])[Γ.length]? = _
    rw [← A.len]; simp
  refine spC.imp (fun v H' q => q) (fun cls od H' q => ?_) (call_sp (Q := fun v H2 => v = .non ∧ Q (.ref x) H2) A3 (.cons h0 hr3) (fun r hm => ?_) h fun r v Γ' M' H' n A' T' q => ?_)
  · obtain ⟨D, fs, Γ'', M', ⟨Γ3, s, e, ex⟩, A', e2, hxd⟩ := q
    subst e
    exact ⟨D, fs, Γ3, M', ex, A'.drop, e2, hxd⟩
  · rcases List.mem_cons.mp hm with e | hm
    · subst e; intro d; simp
    · exact nn r hm
  · obtain ⟨er, Γ3, gs, e, n⟩ := n
    subst er; subst e
    have hl : σ.length = Γ3.length := by simpa using A'.len
    have hs : (σ ++ [some (V.ref x)])[Γ3.length]? = some (some (.ref x)) := by rw [← hl]; simp
    have hg : (Γ3 ++ [Sl.ow (.obj C gs)])[Γ3.length]? = some (.ow (.obj C gs)) := by simp
    obtain ⟨a, o, ea, m, z, ho, rr⟩ := A'.rel _ _ _ hg hs
    cases ea
    have nw : RvRel K Z M' Γ3 σ H' (.ref x) (.new (.obj C gs)) := ⟨x, o, rfl, m, z, ho, rr, fun i oi => by
      obtain ⟨t, h1, h2, h3⟩ := oi
      have l : i < Γ3.length := by
        rcases Nat.lt_or_ge i Γ3.length with q | q
        · exact q
        · rw [List.getElem?_eq_none (by simpa using q)] at h1; cases h1
      have := A'.dis i Γ3.length x ⟨t, by rw [List.getElem?_append_left l]; exact h1, h2, by rw [List.getElem?_append_left (by omega)]; exact h3⟩ ⟨_, hg, rfl, hs⟩
      omega⟩
    obtain ⟨M5, A5, T5, q5⟩ := A'.drop.show_new nw
    exact ⟨Rep.non_inv q, k _ _ _ _ _ n A5 (((T1.trans T2).trans T').trans T5) q5⟩
end
/-- the class at C, made by its __init__ -/
structure Mkd (P : Program) (w : World) (K : PySem.W.Frag) (mg : Str → Option Value) (base : Heap) (x : Str) (C : Addr) (k : Nat) {α : Type} (c : Ct α) : Prop where
  ex : ∃ (f : Addr) (fd : FuncData) (ps : List Str), FnOk P w K mg base (L2.CX P w) k f fd ps (spC K c) ∧ mg x = some (.ref C) ∧ Mk K C f ∧ Binds K fd ps []
section
variable {X : L2.Cx} {Z : Zc} {Γ : List Sl} {N : Rv → List Sl → Prop} {a b c e o i : Expr} {es : List Expr} {pos apos p : Pos} {P : Po} {x : Str} {k : Nat} {α : Type} {ct : Ct α} {Ex : XEx} {C : Addr}
theorem pe_makeC {f : Addr} {fd : FuncData} {ps : List Str} {sp : Sp} {E : L2.St → XK} {t : TA} (MM : Mk X.K C f) (F : FnOk X.prog X.w X.K X.mg X.base (L2.CX X.prog X.w) k f fd ps sp) (hr : Room (k + 1) X.A) (hg : Gl X x) (hm : X.mg x = some (.ref C)) (hb : Binds X.K fd ps []) (hx : ∀ σ, PassesAt (L2.CX X.prog X.w) X σ (E σ)) (ha : PA X (e :: es) t)
    (hdb : (x == ("__debug__" : Str)) = false) (he : starEach (e :: es) X.env = (false, eval e X.env) :: starEach es X.env) (hpl : (backTo pos (starEach es X.env)).any (·.1) = false) :
    PE X (.Call (.Name x p) (e :: es) [] pos) (fun σ H Q => t σ H fun vs H1 => ∀ y dx, H1 y = none → H1 dx = none → dx ≠ y → sp (.ref y :: vs) (upd (upd H1 dx (.own y)) y (.ins C dx [])) (fun v H2 => v = .non ∧ Q (.ref y) H2) (E σ)) :=
  ⟨fun pins s σ H Q I h => by
    refine wpAny_Call_Name_kw (ld_glob I hg hm ?_ hdb)
    refine PySem.W.callWith_K (h₀ := X.base) I.ok.mod.kin MM.kp (thn (ha.run pos pins s σ H _ I h) fun us s1 ⟨vs, H1, I1, r, q⟩ => ⟨I1.kIn, ?_⟩) he hpl
    have hq := q (s1.heap.objs.size + 1) s1.heap.objs.size (I1.hok.fresh (Nat.le_succ _)) (I1.hok.fresh (Nat.le_refl _)) (Nat.ne_of_lt (Nat.lt_succ_self _))
    have I2 := Inv.made (C := C) I1
    have r2 : Vals (V.ref (s1.heap.objs.size + 1) :: vs) (Value.ref (s1.heap.objs.size + 1) :: us) := .cons rfl r
    have hl : (Value.ref (s1.heap.objs.size + 1) :: us ++ []).length = ps.length := by
      have e := r2.length
      rw [F.len _ _ _ _ hq] at e
      rw [List.append_nil]; exact e.symm
    have hbb := hb _ (Value.ref (s1.heap.objs.size + 1) :: us) I2.kIn hl
    rw [List.append_nil] at hbb
    refine wpAny_call (make_map (f := f) I1.kIn MM.makes MM.init (beq_iff_eq.mp MM.fn) (codeAny_mono (F.run _ X.stack _ _ ⟨Value.ref (s1.heap.objs.size + 1) :: us, []⟩ (Value.ref (s1.heap.objs.size + 1) :: us) _ _ (E σ) (hr.make C us [])
      (I2.env0.make C us []) hbb r2 hq) fun r s' hq' => ?_))
    cases r with
    | error e => exact hx σ pins _ _ e s' I2 hq'
    | ok fl =>
      cases fl with
      | ret u =>
        obtain ⟨v, H', I3, rv, ev, q3⟩ := I2.after hq'
        subst ev
        exact ⟨rv, ⟨V.ref (s1.heap.objs.size + 1), H', I3, rfl, q3⟩⟩
      | next => exact False.elim hq'
      | brk => exact False.elim hq'
      | cont => exact False.elim hq'⟩
theorem ew_make (D : Mkd X.prog X.w X.K X.mg X.base x C k ct) (hr : Room (k + 1) X.A) (tk : Takes X (wOf X.K Z Ex)) (h : AW X Z Γ (e :: es) (MakePost ct C Ex N)) (hg : Gl X x := by rfl)
    (hdb : (x == ("__debug__" : Str)) = false := by decide) (he : starEach (e :: es) X.env = (false, eval e X.env) :: starEach es X.env := by rfl) (hpl : (backTo pos (starEach es X.env)).any (·.1) = false := by rfl) : EW X Z Γ (.Call (.Name x p) (e :: es) [] pos) N := by
  obtain ⟨f, fd, ps, F, hm, MM, hb⟩ := D.ex
  refine pe_imp (pe_makeC MM F hr hg hm hb (E := WE (wOf X.K Z Ex)) (fun σ => passAt tk σ) h hdb he hpl) fun σ H Q ⟨M, A, k⟩ => ?_
  exact ⟨M, A, fun rs vs Γ1 M1 H1 n1 nn A1 T1 q1 y dx h1 h2 h3 => make_sp A1 q1 nn n1 (fun r v Γ' M' H' n A' T' q => k r v Γ' M' H' n A' (T1.trans T') q) h1 h2 h3⟩
/-! ### raise -/
/-- an own exception class over LightsError, ValueError without an __init__ of its own -/
structure Exc0 (K : PySem.W.Frag) (mg : Str → Option Value) (x : Str) (C : Addr) : Prop where
  g : mg x = some (.ref C)
  q : PySem.W.excIn K C [.type "ValueError", .type "Exception", .type "BaseException", .type "object"] "ValueError.__new__" = true
  kp : PySem.W.keepIn K (.ref C) = true
  s : PySem.W.subIn K (.ref C) (.type "BaseException") = some true
  t : PySem.W.typeIn K (.ref C) = some (.type "type")
theorem sw_raise0 {m : Str} {j : Nat} {p1 p2 p3 pos : Pos} (hc : X.calm = true) (tk : Takes X (wOf X.K Z Ex)) (E0 : Exc0 X.K X.mg x C) (h : Ex C [] Γ) (hg : Gl X x := by rfl) (hdb : (x == ("__debug__" : Str)) = false := by decide) :
    SW X Z Γ (.Raise (some (.Call (.Name x p1) [.Constant (.str m) j p2] [] p3)) none pos) P :=
  ps_imp (ps_raise hc tk (pmk_own PySem.F.excBase_ValueError E0.q E0.g E0.kp (raises_own E0.s E0.t) hg hdb)) fun D σ H ⟨M, A, _⟩ => ⟨C, [], Γ, M, h, A, rfl, .inl ⟨rfl, rfl⟩⟩
/-! ### statements whose ends do not tell how the heap has grown (what a try wants) -/
def tnOf (K : PySem.W.Frag) (Z : Zc) (Γ : List Sl) (P : Po) : TS := fun D σ H => ∃ M, As K Z M Γ σ H ∧
  (∀ Γ' M' σ' H', P.nx Γ' → As K Z M' Γ' σ' H' → D.nx σ' H') ∧
  (∀ r v Γ' M' σ' H', P.rt r Γ' → As K Z M' Γ' σ' H' → RvRel K Z M' Γ' σ' H' v r → D.rt v H') ∧
  (∀ Γ' M' σ' H', P.bk Γ' → As K Z M' Γ' σ' H' → D.bk σ' H') ∧
  (∀ Γ' M' σ' H', P.ct Γ' → As K Z M' Γ' σ' H' → D.ct σ' H')
abbrev NW (X : L2.Cx) (Z : Zc) (Γ : List Sl) (st : Stmt) (P : Po) : Prop := PS X st (tnOf X.K Z Γ P)
abbrev NS (X : L2.Cx) (Z : Zc) (Γ : List Sl) (st : List Stmt) (P : Po) : Prop := PSs X st (tnOf X.K Z Γ P)
variable {st : Stmt} {sts : List Stmt}
theorem nw_of (h : SW X Z Γ st P) : NW X Z Γ st P := ps_imp h fun D σ H ⟨M, A, k1, k2, k3, k4⟩ => ⟨M, A, fun _ _ _ _ n A' _ => k1 _ _ _ _ n A', k2, fun _ _ _ _ n A' _ => k3 _ _ _ _ n A', fun _ _ _ _ n A' _ => k4 _ _ _ _ n A'⟩
theorem ns_of (h : SS X Z Γ sts P) : NS X Z Γ sts P := pss_imp h fun D σ H ⟨M, A, k1, k2, k3, k4⟩ => ⟨M, A, fun _ _ _ _ n A' _ => k1 _ _ _ _ n A', k2, fun _ _ _ _ n A' _ => k3 _ _ _ _ n A', fun _ _ _ _ n A' _ => k4 _ _ _ _ n A'⟩
theorem ns_nil (h : P.nx Γ) : NS X Z Γ [] P := ns_of (ss_nil h)
theorem ns_cons (h : NW X Z Γ st ⟨fun Γ1 => NS X Z Γ1 sts P, P.rt, P.bk, P.ct⟩) : NS X Z Γ (st :: sts) P := by
  have hb : PSs X sts (fun D σ H => ∃ i : List Sl, NS X Z i sts P ∧ tnOf X.K Z i P D σ H) := pss_ex fun i hi => hi
  refine pss_imp (pss_cons h hb) fun D σ H ⟨M, A, k⟩ => ?_
  exact ⟨M, A, fun Γ' M' σ' H' n A' => ⟨Γ', n, M', A', k⟩, k.2⟩
theorem nw_if {s1 s2 : List Stmt} (h : TW X Z Γ c fun t Γ1 => (t = true → NS X Z Γ1 s1 P) ∧ (t = false → NS X Z Γ1 s2 P)) : NW X Z Γ (.If c s1 s2 pos) P := by
  have ha : PSs X s1 (fun D σ H => ∃ i : List Sl, NS X Z i s1 P ∧ tnOf X.K Z i P D σ H) := pss_ex fun i hi => hi
  have hb : PSs X s2 (fun D σ H => ∃ i : List Sl, NS X Z i s2 P ∧ tnOf X.K Z i P D σ H) := pss_ex fun i hi => hi
  refine ps_imp (ps_if h ha hb) fun D σ H ⟨M, A, k⟩ => ?_
  refine ⟨M, A, fun t Γ1 M1 H1 ⟨n1, n2⟩ A1 T1 => ?_⟩
  cases t with
  | true => exact ⟨Γ1, n1 rfl, M1, A1, k⟩
  | false => exact ⟨Γ1, n2 rfl, M1, A1, k⟩
/-! ### try -/
/-- the suite's ends, at the end of which the clause's name goes -/
def Po.gone (P : Po) (i : Nat) : Po := ⟨fun Γ2 => P.nx (Γ2.set i .un), P.rt, fun Γ2 => P.bk (Γ2.set i .un), fun Γ2 => P.ct (Γ2.set i .un)⟩
/-- what a clause asks of an exception of the class at C -/
def Clause (X : L2.Cx) (Z : Zc) (cv : Value) (suite : List Stmt) (Ex : XEx) (C : Addr) (fs : List (Str × D)) (Γ' : List Sl) (g : Addr → List Sl) (P' : Po) : Prop :=
  ∃ t, PySem.W.exmOne X.K (.ref C) cv = some t ∧ (t = true → fs = [] ∧ ∀ (a : Addr) (oe : Obj) (pn : List (Addr × Obj)), L2.Zc (.ref C) none oe → (∃ vs, oe.data = .fields vs) → NS (X.suite a ((a, oe) :: pn)) Z (g a) suite P') ∧ (t = false → Ex C fs Γ')
theorem nw_try_as {n : Str} {i : Nat} {cv : Value} {body suite : List Stmt} {b₀ : Stmt} {np pos' : Pos} {Ex' : XEx} (hs : X.stack = X.env :: X.outer) (hf : X.env.frame = some X.env.locals) (hN : X.N.Nodup) (hi : X.N[i]? = some n) (hln : X.env.kindOf n = some .local) (hn : Names X x cv) (tk : Takes X (wOf X.K Z Ex))
    (hb : ∀ (pn : List (Addr × Obj)) (xe : Value → Shared → Prop), Takes (X.tr pn xe) (wOf X.K Z Ex') → PassesOwn (model X.prog X.w) X.A X.env xe → NS (X.tr pn xe) Z Γ body P)
    (hx : ∀ C fs Γ', Ex' C fs Γ' → Clause X Z cv (b₀ :: suite) Ex C fs Γ' (fun a => Γ'.set i (.va (.ref a))) (P.gone i)) :
    NW X Z Γ (.Try body [.ExceptHandler (some (.Name x np)) (some n) (b₀ :: suite) pos'] [] [] pos) P := by
  refine ps_imp (ps_try_as (c := cv) (Wout := wOf X.K Z Ex) (tb := fun W D σ H => (∀ c d σ' H', wOf X.K Z Ex' c d σ' H' → W c d σ' H') ∧ tnOf X.K Z Γ P D σ H)
    (ts := fun a cls d D σ H => ∃ y : Addr × List Sl, (cls = .ref y.1 ∧ d = none ∧ ∀ (oe : Obj) (pn : List (Addr × Obj)), L2.Zc (.ref y.1) none oe → (∃ vs, oe.data = .fields vs) → NS (X.suite a ((a, oe) :: pn)) Z (y.2.set i (.va (.ref a))) (b₀ :: suite) (P.gone i)) ∧ tnOf X.K Z (y.2.set i (.va (.ref a))) (P.gone i) D σ H)
    hs hf hN hi hln hn tk (fun W pn xe tw po => pss_if fun q => hb pn xe (tw.imp q) po) (fun a oe cls d pn hz hv => pss_ex fun y ⟨e1, e2, h⟩ => by subst e1; subst e2; exact h oe pn hz hv)) fun D σ H ⟨M, A, k1, k2, k3, k4⟩ => ?_
  refine ⟨fun cls d σ' H' ⟨C, fs, Γ', M', ex, A', e, xd⟩ => ?_, M, A, k1, k2, k3, k4⟩
  subst e
  obtain ⟨t, em, n1, n2⟩ := hx C fs Γ' ex
  refine ⟨t, em, fun e a ha => ?_, fun e => ⟨C, fs, Γ', M', n2 e, A', rfl, xd⟩⟩
  obtain ⟨ef, h⟩ := n1 e
  have ed : d = none := by
    rcases xd with ⟨_, q⟩ | ⟨q, _⟩
    · exact q
    · exact absurd ef q
  exact ⟨(C, Γ'), ⟨rfl, ed, fun oe pn hz hv => h a oe pn hz hv⟩, M', A'.put (s := .va (.ref a)) rfl (fun j b q => nomatch q), fun Γ2 M2 σ2 H2 n2 A2 => k1 _ _ _ _ n2 A2.un, k2, fun Γ2 M2 σ2 H2 n2 A2 => k3 _ _ _ _ n2 A2.un, fun Γ2 M2 σ2 H2 n2 A2 => k4 _ _ _ _ n2 A2.un⟩
theorem nw_try_only {cv : Value} {body suite : List Stmt} {b₀ : Stmt} {np pos' : Pos} {Ex' : XEx} (hs : X.stack = X.env :: X.outer) (hf : X.env.frame = some X.env.locals) (hn : Names X x cv) (tk : Takes X (wOf X.K Z Ex))
    (hb : ∀ (pn : List (Addr × Obj)) (xe : Value → Shared → Prop), Takes (X.tr pn xe) (wOf X.K Z Ex') → PassesOwn (model X.prog X.w) X.A X.env xe → NS (X.tr pn xe) Z Γ body P)
    (hx : ∀ C fs Γ', Ex' C fs Γ' → Clause X Z cv (b₀ :: suite) Ex C fs Γ' (fun _ => Γ') P) :
    NW X Z Γ (.Try body [.ExceptHandler (some (.Name x np)) none (b₀ :: suite) pos'] [] [] pos) P := by
  refine ps_imp (ps_try_only (c := cv) (Wout := wOf X.K Z Ex) (tb := fun W D σ H => (∀ c d σ' H', wOf X.K Z Ex' c d σ' H' → W c d σ' H') ∧ tnOf X.K Z Γ P D σ H)
    (ts := fun a cls d D σ H => ∃ y : Addr × List Sl, (cls = .ref y.1 ∧ d = none ∧ ∀ (oe : Obj) (pn : List (Addr × Obj)), L2.Zc (.ref y.1) none oe → (∃ vs, oe.data = .fields vs) → NS (X.suite a ((a, oe) :: pn)) Z y.2 (b₀ :: suite) P) ∧ tnOf X.K Z y.2 P D σ H)
    hs hf hn tk (fun W pn xe tw po => pss_if fun q => hb pn xe (tw.imp q) po) (fun a oe cls d pn hz hv => pss_ex fun y ⟨e1, e2, h⟩ => by subst e1; subst e2; exact h oe pn hz hv)) fun D σ H ⟨M, A, k1, k2, k3, k4⟩ => ?_
  refine ⟨fun cls d σ' H' ⟨C, fs, Γ', M', ex, A', e, xd⟩ => ?_, M, A, k1, k2, k3, k4⟩
  subst e
  obtain ⟨t, em, n1, n2⟩ := hx C fs Γ' ex
  refine ⟨t, em, fun e a ha => ?_, fun e => ⟨C, fs, Γ', M', n2 e, A', rfl, xd⟩⟩
  obtain ⟨ef, h⟩ := n1 e
  have ed : d = none := by
    rcases xd with ⟨_, q⟩ | ⟨q, _⟩
    · exact q
    · exact absurd ef q
  exact ⟨(C, Γ'), ⟨rfl, ed, fun oe pn hz hv => h a oe pn hz hv⟩, M', A', k1, k2, k3, k4⟩
/-- isinstance(e, c) of the error that the suite holds -/
theorem on_isE {K : PySem.W.Frag} {D a : Addr} {cd : Lw.D} {u : Value} {b : Bool} (hu : ClsD cd = some u) (hk : PySem.W.kitOne K (.ref D) u = some b) {H Hs : Hp} {w : V} (h : Rep1 K H Hs w cd) {Q : VK} (q : Q (.bl b) H) : rIsE K D a [.ref a, w] H Q :=
  ⟨w, u, b, rfl, fun u' r => (ClsD.ok h hu).eq r, hk, q⟩
theorem ew_isE {a D : Addr} {oe : Obj} {pn : List (Addr × Obj)} {p1 : Pos} {e2 : Expr} (hC : ExcC X.K D) (hz : L2.Zc (.ref D) none oe) (hv : ∃ vs, oe.data = .fields vs) (hm : X.mg "isinstance" = none)
    (h : AW (X.suite a ((a, oe) :: pn)) Z Γ [e, e2] fun rs Γ1 => ∃ r2 cd u b, rs = [.va (.ref a), r2] ∧ view Γ1 r2 = some cd ∧ ClsD cd = some u ∧ PySem.W.kitOne X.K (.ref D) u = some b ∧ N (.d (.bl b)) Γ1)
    (hg : Gl (X.suite a ((a, oe) :: pn)) "isinstance" := by rfl) (he : starEach (e :: [e2]) X.env = (false, eval e X.env) :: starEach [e2] X.env := by rfl) (hpl : (backTo pos (starEach [e2] X.env)).any (·.1) = false := by rfl) :
    EW (X.suite a ((a, oe) :: pn)) Z Γ (.Call (.Name "isinstance" p1) [e, e2] [] pos) N := by
  refine pe_imp (pe_callB (call_isE hC hz hv) hg hm (by decide +kernel) h (by decide) (by decide) he hpl) fun σ H Q ⟨M, A, k⟩ => ?_
  refine ⟨M, A, fun rs vs Γ1 M1 H1 ⟨r2, cd, u, b, er, w, hu, hk, n⟩ nn A1 T1 q1 => ?_⟩
  subst er
  cases q1 with
  | cons r1 q2 =>
    cases q2 with
    | cons r3 q3 =>
      cases q3
      have e1 : _ = V.ref a := r1
      subst e1
      exact on_isE hu hk (A1.view r3 w) (k _ _ _ _ _ n A1 T1 (.bl b))
end
section
variable {P : Program} {w : World} {K : PySem.W.Frag} {mg : Str → Option Value} {base : Heap}
/-- THE RULE for a def, with a try in it -/
theorem fn_okN {α : Type} {x qual : Str} {st : Stmt} {f : Addr} {fd : FuncData} {N ps : List Str} {k : Nat} {c : Ct α} (F : Fun K x qual st f fd) (S : FnScope N ps (defScope st)) (hlen : ∀ y, (c.ar y).length = ps.length)
    (hbody : ∀ (y : α) (cdv : Value) (A : Around) (outer : List Env) (s : Shared) (H : Hp) (E : XK) (Z : Zc), c.ok y → Room k (A.deeper (envOfC qual (defScope st) s.heap.objs.size f cdv)) →
      Takes (cxOf (L2.CX P w) P w K mg base N qual (defScope st) f cdv A outer s H E) (wOf K Z (ExOf c y)) →
      PassesOwn (model P w) (cxOf (L2.CX P w) P w K mg base N qual (defScope st) f cdv A outer s H E).A (cxOf (L2.CX P w) P w K mg base N qual (defScope st) f cdv A outer s H E).env (cxOf (L2.CX P w) P w K mg base N qual (defScope st) f cdv A outer s H E).xe →
      NS (cxOf (L2.CX P w) P w K mg base N qual (defScope st) f cdv A outer s H E) Z (slots (c.ar y) N.length) (defBody st) (Po.of c y)) : FnOk P w K mg base (L2.CX P w) (k + 1) f fd ps (spC K c) := by
  refine F.okX S (fun vs H Q E h => ?_) (fun cdv A outer s H vs Q E hr h => ?_)
  · obtain ⟨y, M0, B, _, ha, _⟩ := h
    rw [ha.length, hlen]
  · obtain ⟨y, M0, B, hok, ha, hd, b0, m0, dj, hq⟩ := h
    have A0 := start_as (N := N) ha hd b0 m0 dj
    have tk : Takes (cxOf (L2.CX P w) P w K mg base N qual (defScope st) f cdv A outer s H E) (wOf K ⟨H, M0, B, paOf vs, b0, m0, dj⟩ (ExOf c y)) :=
      (takes_of rfl rfl rfl rfl).imp fun cls od σ H' ⟨C, fs, Γ, M, he, A', e, hx⟩ => by
        subst e
        exact exc_of (Z := ⟨H, M0, B, paOf vs, b0, m0, dj⟩) (vs := vs) (Q := Q) (E := E) A' rfl hq he hx
    refine ⟨_, hbody y cdv A outer s H E _ hok hr tk (passes_of rfl), M0, A0, fun Γ' M' σ' H' n A' => ?_, fun r v Γ' M' σ' H' n A' q => ?_, fun _ _ _ _ n _ => n.elim, fun _ _ _ _ n _ => n.elim⟩
    · obtain ⟨b, n, hb⟩ := n
      exact As.ret (Z := ⟨H, M0, B, paOf vs, b0, m0, dj⟩) (r := .d .non) (v := .non) (Q := Q) (E := E) (vs := vs) A' .non rfl n (hq b hb)
    · obtain ⟨b, n, hb⟩ := n
      exact As.ret (Z := ⟨H, M0, B, paOf vs, b0, m0, dj⟩) (Q := Q) (E := E) (vs := vs) A' q rfl n (hq b hb)
end
end Lw

namespace Lw
open PySem L2 PyProof.Rows
section
variable {prog : Program} {w : World} {A : Around} {E : Value → Shared → Prop} {s : Shared}
/-- bool(x), by x's truth -/
theorem bool_any {x : Value} {Q : Value → Shared → Prop} (h : wpAny (model prog w) A.in1.in1 (truthy x) (fun b s' => Q (.bool b) s') E s) : wpAny (model prog w) A (call (.type "bool") [x]) Q E s := by
  refine callType_codes (Q₁ := fun obj s₁ => ∃ b, obj = .bool b ∧ Q (.bool b) s₁) PySem.F.called_bool (PySem.F.typeCall_bool_1 x) PySem.F.entry_object_init
    (codeAny_call_builtin PySem.F.called_bool.plain PySem.F.entry_bool_new (wpAny_of_eq (PySem.F.newCall_bool_1 x) ?_)) fun obj s₁ ⟨b, e, q⟩ => ?_
  · have f1 := PySem.F.conv_sub_bool
    obtain ⟨hp, g, d, tk, os⟩ := s
    unfold Builtin.«bool.__new__»
    repeat (any_goals (first | assumption | wp_step))
    refine wpAny_mono h (fun b s' q => ?_) fun _ _ z => z
    repeat (any_goals (first | assumption | wp_step))
    first | exact ⟨b, rfl, q⟩ | exact ⟨_, rfl, _, rfl, q⟩ | skip
  · subst e
    refine ⟨rfl, PySem.F.args_object_init_2 _ _, ?_⟩
    exact PySem.object_init_meets (T := "bool") PySem.F.called_bool.init.lookup PySem.F.called_bool.made PySem.F.newNe_bool prog w A.in1 _ s₁ ⟨rfl, rfl, q⟩
end
section
variable {X : L2.Cx} {Z : Zc} {Γ : List Sl} {N : Rv → List Sl → Prop} {a b c e o i : Expr} {es : List Expr} {pos apos p : Pos} {P : Po} {k : Nat} {α : Type} {ct : Ct α} {C : Addr} {K : PySem.W.Frag}
theorem rref (a : Addr) : RelV (V.ref a) (Value.ref a) := rfl
abbrev XF : XK := fun _ _ _ => False
theorem cx_false {outer : List Env} {H : Hp} {s s' : Shared} {u : Value} (h : L2.CX X.prog X.w outer H s XF u s') : False := by
  obtain ⟨_, _, _, _, _, _, _, _, _, _, _, _, f⟩ := h
  exact f
/-- a special method of the class at C: found, a def, kept -/
structure Dun (P : Program) (w : World) (K : PySem.W.Frag) (mg : Str → Option Value) (base : Heap) (C : Addr) (nm : Str) (k : Nat) (sp : Sp) : Prop where
  ex : ∃ (f : Addr) (fd : FuncData) (ps : List Str), FnOk P w K mg base (L2.CX P w) k f fd ps sp ∧ PySem.W.findIn K (.ref C) nm = some (some (.ref f)) ∧ PySem.W.isFn K (.ref f) = true ∧ Binds K fd ps []
/-- the callee runs, somewhere below -/
theorem run_at {A' : Around} {f : Addr} {fd : FuncData} {ps : List Str} {sp : Sp} {pins : List (Addr × Obj)} {σ : L2.St} {H : Hp} {s : Shared} {Q : VK} {us : List Value} {vs : List V} (F : FnOk X.prog X.w X.K X.mg X.base (L2.CX X.prog X.w) k f fd ps sp) (hr : Room k A') (hf : A'.frames = X.A.frames) (hb : Binds X.K fd ps [])
    (I : Inv X pins σ H s) (r : Vals vs us) (h : sp vs H Q XF) (E : Value → Shared → Prop) : wpAny (model X.prog X.w) A' (call (.ref f) us) (EP X pins σ Q) E s := by
  have hl : (us ++ []).length = ps.length := by rw [List.append_nil, ← r.length]; exact F.len _ _ _ _ h
  have hbb := hb s us I.kIn hl
  rw [List.append_nil] at hbb
  have e := I.env0
  refine wpAny_call (codeAny_mono (F.run A' X.stack s H ⟨us, []⟩ us vs Q XF hr ⟨by rw [hf]; exact e.frames, e.mod, e.bs, e.bsz, e.funs, e.frf, e.hok, e.bare⟩ hbb r h) fun r s' hq => ?_)
  cases r with
  | error e => exact (cx_false hq).elim
  | ok fl =>
    cases fl with
    | ret u => exact I.after hq
    | next => exact False.elim hq
    | brk => exact False.elim hq
    | cont => exact False.elim hq
theorem Inv.inst {pins : List (Addr × Obj)} {σ : L2.St} {H : Hp} {s : Shared} {a dx : Addr} {fs : List (Str × V)} (I : Inv X pins σ H s) (h : H a = some (.ins C dx fs)) : ∃ ox od, PySem.W.InstAt s.heap a ox C od := by
  obtain ⟨mA, J, _⟩ := ins_get I.hok h
  obtain ⟨od, J, _⟩ := J.look
  exact ⟨_, od, J⟩
/-- o == p, both of the class at C -/
def rOwn2 (C : Addr) (sp : Sp) : R2 := fun x y H Q => ∃ a b dx dy fs gs, x = .ref a ∧ y = .ref b ∧ H a = some (.ins C dx fs) ∧ H b = some (.ins C dy gs) ∧ sp [x, y] H (fun v H' => (∃ c, v = .bl c) ∧ Q v H') XF
theorem op_eqOwn {sp : Sp} (D : Dun X.prog X.w X.K X.mg X.base C "__eq__" k sp) (hr : Room k X.A) : OpR X (compareOp .Eq) (rOwn2 C sp) := by
  intro pins s σ H x y v u Q I rx ry h
  obtain ⟨f, fd, ps, F, hs, hf, hb⟩ := D.ex
  obtain ⟨a, b, dx, dy, fs, gs, rfl, rfl, ha, hb', q⟩ := h
  cases rx
  cases ry
  obtain ⟨_, _, J⟩ := Inv.inst I ha
  obtain ⟨_, _, J'⟩ := Inv.inst I hb'
  obtain ⟨m, hF⟩ := I.fr
  show wpAny (model X.prog X.w) X.A (richCompare .Eq (.ref a) (.ref b)) _ _ _
  refine PySem.W.cmp_K (op := .Eq) (tb := .ref C) hr.units0 hF I.ok.mod.kin J J'.type (by simp [PySem.W.notFirst]) hs hf ?_
  refine wpAny_mono (run_at F hr rfl hb I (.cons (rref a) (.cons (rref b) .nil)) q X.xe) (fun r s' hq => ?_) fun _ _ z => z
  obtain ⟨z, H', I', rz, ⟨c, ez⟩, q'⟩ := hq
  subst ez
  cases rz
  exact ⟨.bl c, H', I', rfl, q'⟩
/-- x in o -/
def rInOwn (C : Addr) (sp : Sp) (neg : Bool) : R2 := fun x y H Q => ∃ b dy gs, y = .ref b ∧ H b = some (.ins C dy gs) ∧ sp [y, x] H (fun v H' => ∃ c, v = .bl c ∧ Q (.bl (if neg then !c else c)) H') XF
theorem op_inOwn {sp : Sp} (D : Dun X.prog X.w X.K X.mg X.base C "__contains__" k sp) (hr : Room k X.A) : OpR X (compareOp .In) (rInOwn C sp false) := by
  intro pins s σ H x y v u Q I rx ry h
  obtain ⟨f, fd, ps, F, hs, hf, hb⟩ := D.ex
  obtain ⟨b, dy, gs, rfl, hb', q⟩ := h
  cases ry
  obtain ⟨_, _, J⟩ := Inv.inst I hb'
  obtain ⟨m, hF⟩ := I.fr
  refine PySem.W.in_K hF I.ok.mod.kin J hs hf ?_
  refine wpAny_mono (run_at F hr rfl hb I (.cons (rref b) (.cons rx .nil)) q X.xe) (fun r s' hq => ?_) fun _ _ z => z
  obtain ⟨z, H', I', rz, c, ez, q'⟩ := hq
  subst ez
  cases rz
  exact wpAny_truthy_bool ⟨.bl c, H', I', rfl, q'⟩
theorem op_ninOwn {sp : Sp} (D : Dun X.prog X.w X.K X.mg X.base C "__contains__" k sp) (hr : Room k X.A) : OpR X (compareOp .NotIn) (rInOwn C sp true) := by
  intro pins s σ H x y v u Q I rx ry h
  obtain ⟨f, fd, ps, F, hs, hf, hb⟩ := D.ex
  obtain ⟨b, dy, gs, rfl, hb', q⟩ := h
  cases ry
  obtain ⟨_, _, J⟩ := Inv.inst I hb'
  obtain ⟨m, hF⟩ := I.fr
  refine PySem.W.notIn_K hF I.ok.mod.kin J hs hf ?_
  refine wpAny_mono (run_at F hr rfl hb I (.cons (rref b) (.cons rx .nil)) q X.xe) (fun r s' hq => ?_) fun _ _ z => z
  obtain ⟨z, H', I', rz, c, ez, q'⟩ := hq
  subst ez
  cases rz
  exact wpAny_truthy_bool ⟨.bl (!c), H', I', rfl, q'⟩
/-- len(o) -/
def rLenOwn (C : Addr) (sp : Sp) : List V → Hp → VK → Prop := fun xs H Q => ∃ b dy gs, xs = [.ref b] ∧ H b = some (.ins C dy gs) ∧ sp xs H (fun v H' => ∃ n, v = .int n ∧ (0 ≤ n ∧ n < 2 ^ 63) ∧ Q (.int n) H') XF
theorem call_lenOwn {sp : Sp} (D : Dun X.prog X.w X.K X.mg X.base C "__len__" k sp) (hr : Room (k + 1) X.A) : CallR X (.builtin "len") (rLenOwn C sp) := by
  intro pins s σ H xs us Q I r h
  obtain ⟨f, fd, ps, F, hs, hf, hb⟩ := D.ex
  obtain ⟨b, dy, gs, rfl, hb', q⟩ := h
  obtain ⟨u, eu, ru⟩ := r.one
  subst eu; cases ru
  obtain ⟨_, _, J⟩ := Inv.inst I hb'
  obtain ⟨m, hF⟩ := I.fr
  refine PySem.W.len_K hF I.ok.mod.kin J hs hf ?_
  refine wpAny_mono (run_at F hr.in1 rfl hb I (.cons (rref b) .nil) q X.xe) (fun r s' hq => ?_) fun _ _ z => z
  obtain ⟨z, H', I', rz, n, ez, hn, q'⟩ := hq
  subst ez
  obtain ⟨t, rfl⟩ := (show ∃ t, r = Value.int n t from rz)
  exact ⟨hn, ⟨.int n, H', I'.tok _, ⟨_, rfl⟩, q'⟩⟩
/-- bool(o), by __bool__ -/
def rBoolOwn (C : Addr) (sp : Sp) : List V → Hp → VK → Prop := fun xs H Q => ∃ b dy gs, xs = [.ref b] ∧ H b = some (.ins C dy gs) ∧ sp xs H (fun v H' => ∃ c, v = .bl c ∧ Q (.bl c) H') XF
theorem truthy_own {sp : Sp} {A' : Around} {pins : List (Addr × Obj)} {σ : L2.St} {H : Hp} {s : Shared} (D : Dun X.prog X.w X.K X.mg X.base C "__bool__" k sp) (hr : Room k A') (hfr : A'.frames = X.A.frames) (I : Inv X pins σ H s) {b dy : Addr} {gs : List (Str × V)} (hb' : H b = some (.ins C dy gs)) {Q : Bool → Hp → Prop}
    (q : sp [.ref b] H (fun v H' => ∃ c, v = .bl c ∧ Q c H') XF) (E : Value → Shared → Prop) : wpAny (model X.prog X.w) A' (truthy (.ref b)) (TP X pins σ Q) E s := by
  obtain ⟨f, fd, ps, F, hs, hf, hb⟩ := D.ex
  obtain ⟨_, _, J⟩ := Inv.inst I hb'
  obtain ⟨m, hF⟩ := I.fr
  refine PySem.W.truthy_K hF I.ok.mod.kin J hs hf ?_
  refine wpAny_mono (run_at F hr hfr hb I (.cons (rref b) .nil) q E) (fun r s' hq => ?_) fun _ _ z => z
  obtain ⟨z, H', I', rz, c, ez, q'⟩ := hq
  subst ez
  cases rz
  exact ⟨H', I', q'⟩
theorem call_boolOwn {sp : Sp} (D : Dun X.prog X.w X.K X.mg X.base C "__bool__" k sp) (hr : Room (k + 2) X.A) : CallR X (.type "bool") (rBoolOwn C sp) := by
  intro pins s σ H xs us Q I r h
  obtain ⟨b, dy, gs, rfl, hb', q⟩ := h
  obtain ⟨u, eu, ru⟩ := r.one
  subst eu; cases ru
  refine bool_any (wpAny_mono (truthy_own D hr.in1.in1 rfl I hb' q X.xe) (fun c s' hq => ?_) fun _ _ z => z)
  obtain ⟨H', I', q'⟩ := hq
  exact ⟨.bl c, H', I', rfl, q'⟩
/-- bool(x) of a plain value -/
theorem call_boolV : CallR X (.type "bool") (fun xs H Q => ∃ x k, xs = [x] ∧ TruV X.K x H k ∧ Q (.bl k) H) := by
  intro pins s σ H xs us Q I r h
  obtain ⟨x, k, rfl, t, q⟩ := h
  obtain ⟨u, eu, ru⟩ := r.one
  subst eu
  have J : Inv { X with A := X.A.in1.in1 } pins σ H s := ⟨⟨I.ok.mod, I.ok.kind, I.ok.glob, I.ok.blt, I.ok.above, I.ok.inj, I.ok.has, I.ok.cab, I.ok.hd, I.ok.frames, I.ok.stk, I.ok.exf, I.ok.bs, I.ok.bsz, I.ok.noex, I.ok.exfs, I.ok.funs, I.ok.frf⟩, I.os, I.bare, I.base, I.loc, I.cell, I.free, I.freeC, I.pin, I.hok, I.len⟩
  refine bool_any (wpAny_mono (tru_ok (X := { X with A := X.A.in1.in1 }) pins s σ H x u (fun c H' => c = k ∧ H' = H) J ru ⟨k, t, rfl, rfl⟩) (fun c s' hq => ?_) fun _ _ z => z)
  obtain ⟨H', I', ec, eH⟩ := hq
  subst ec; subst eH
  have I2 : Inv X pins σ H' s' := ⟨I.ok, I'.os, I'.bare, I'.base, I'.loc, I'.cell, I'.free, I'.freeC, I'.pin, I'.hok, I'.len⟩
  exact ⟨.bl c, H', I2, rfl, q⟩
theorem on_boolV {d : D} {b : Bool} (h : TruD d = some b) : OpN K (fun xs H Q => ∃ x k, xs = [x] ∧ TruV K x H k ∧ Q (.bl k) H) [d] (.sc (.bl b)) := fun H Hs x vs Q r q => by
  obtain ⟨v, e, r⟩ := r.one
  exact ⟨v, b, e, TruD.ok x r h, q _ _ (.inl ⟨rfl, .bl _⟩)⟩
/-! over data -/
/-- how the two operands go to the def -/
theorem own2 {pe : TE → TE → TE} {rr : R2} {eo : Expr} (hp : ∀ ta tb, PE X a ta → PE X b tb → PE X eo (tOp rr ta tb)) (Cnd : Rv → Rv → List Sl → Prop)
    (hrun : ∀ {M σ H r1 r2 Γ2 x y}, As X.K Z M Γ2 σ H → RvRel X.K Z M Γ2 σ H x r1 → (∀ d, r1 ≠ .new d) → RvRel X.K Z M Γ2 σ H y r2 → (∀ d, r2 ≠ .new d) → Cnd r1 r2 Γ2 → ∀ (Q : VK), (∀ r v Γ' M' H', N r Γ' → As X.K Z M' Γ' σ H' → Tr Z M H M' H' → RvRel X.K Z M' Γ' σ H' v r → Q v H') → rr x y H Q)
    (h : EW X Z Γ a fun r1 Γ1 => Fz r1 Γ1 fun r1 Γ1 => EW X Z Γ1 b fun r2 Γ2 => Fz r2 Γ2 fun r2 Γ2 => Cnd r1 r2 Γ2) : EW X Z Γ eo N := by
  let N2 : Rv → Rv → List Sl → Prop := fun r1 r2 Γ2 => Fz r2 Γ2 fun r2 Γ2 => Cnd r1 r2 Γ2
  have hb : PE X b (fun σ H Q => ∃ i : Rv × List Sl, EW X Z i.2 b (N2 i.1) ∧ tOf X.K Z i.2 (N2 i.1) σ H Q) := pe_ex fun i hi => hi
  refine pe_imp (hp _ _ h hb) fun σ H Q ⟨M, A, k⟩ => ?_
  refine ⟨M, A, fun r1 v1 Γ1 M1 H1 n1 A1 T1 q1 => ?_⟩
  obtain ⟨M2, r1', A2, T2, q2, nn, hb'⟩ := A1.fz' q1 n1
  refine ⟨(r1', Γ1), hb', M2, A2, fun r2 v2 Γ2 M3 H3 n3 A3 T3 q3 => ?_⟩
  obtain ⟨M4, r2', A4, T4, q4, nn4, hc⟩ := A3.fz' q3 n3
  exact hrun A4 (RvRel.tr (Γ' := Γ2) T4 (RvRel.tr (Γ' := Γ2) T3 q2 nn) nn) nn q4 nn4 hc Q fun r v Γ' M' H' n A' T' q => k r v Γ' M' H' n A' ((((T1.trans T2).trans T3).trans T4).trans T') q
abbrev NoX : XEx := fun _ _ _ => False
theorem WE_false {K : PySem.W.Frag} {Z : Zc} {σ : L2.St} {c : Value} {d : Option Addr} {H' : Hp} (h : WE (wOf K Z NoX) σ c d H') : XF c d H' := by
  obtain ⟨_, _, _, _, f, _⟩ := h
  exact f
def isObj (C : Addr) (Γ : List Sl) (r : Rv) : Prop := ∃ gs, view Γ r = some (.obj C gs)
theorem isObj.get {M : Addr → Prop} {σ : L2.St} {H : Hp} {v : V} {r : Rv} (A : As K Z M Γ σ H) (q : RvRel K Z M Γ σ H v r) (h : isObj C Γ r) : ∃ a dx fs, v = .ref a ∧ H a = some (.ins C dx fs) := by
  obtain ⟨gs, w⟩ := h
  obtain ⟨a, dx, fs, e, ho, _⟩ := Rep1.obj_inv A.ext (A.view q w)
  exact ⟨a, dx, fs, e, ho⟩
theorem nn2 {r1 r2 : Rv} (h1 : ∀ d, r1 ≠ Rv.new d) (h2 : ∀ d, r2 ≠ Rv.new d) : ∀ r ∈ [r1, r2], ∀ d, r ≠ Rv.new d := fun r hr => by
  rcases List.mem_cons.mp hr with e | hr
  · subst e; exact h1
  · rcases List.mem_cons.mp hr with e | hr
    · subst e; exact h2
    · cases hr
theorem ew_eqOwn (D : Dun X.prog X.w X.K X.mg X.base C "__eq__" k (spC X.K ct)) (hr : Room k X.A)
    (h : EW X Z Γ a fun r1 Γ1 => Fz r1 Γ1 fun r1 Γ1 => EW X Z Γ1 b fun r2 Γ2 => Fz r2 Γ2 fun r2 Γ2 => isObj C Γ2 r1 ∧ isObj C Γ2 r2 ∧ CallPost ct NoX (fun r Γ' => ∃ c, r = .d (.bl c) ∧ N (.d (.bl c)) Γ') [r1, r2] Γ2) (hm : behindInMarks .Eq b = false := by first | exact nomark _ | rfl) : EW X Z Γ (.Compare a [.Eq] [b] pos) N :=
  own2 (pe := fun t _ => t) (rr := rOwn2 C (spC X.K ct)) (fun _ _ ha hb => pe_cmpR (op_eqOwn D hr) ha hb hm) _ (fun {M σ H r1 r2 Γ2 x y} A q1 n1 q2 n2 ⟨o1, o2, cp⟩ Q k => by
    obtain ⟨a, dx, fs, e1, h1⟩ := o1.get A q1
    obtain ⟨b, dy, gs, e2, h2⟩ := o2.get A q2
    refine ⟨a, b, dx, dy, fs, gs, e1, e2, h1, h2, ?_⟩
    refine spC.imp (fun v H' q => q) (fun c d H' q => WE_false q) (call_sp (Q := fun v H' => (∃ c, v = .bl c) ∧ Q v H') A (.cons q1 (.cons q2 .nil)) (nn2 n1 n2) cp fun r v Γ' M' H' ⟨c, er, n⟩ A' T' q => ?_)
    subst er
    exact ⟨⟨c, Rep.bl_inv q⟩, k _ _ _ _ _ n A' T' q⟩) h
theorem ew_inOwn (D : Dun X.prog X.w X.K X.mg X.base C "__contains__" k (spC X.K ct)) (hr : Room k X.A)
    (h : EW X Z Γ a fun r1 Γ1 => Fz r1 Γ1 fun r1 Γ1 => EW X Z Γ1 b fun r2 Γ2 => Fz r2 Γ2 fun r2 Γ2 => isObj C Γ2 r2 ∧ CallPost ct NoX (fun r Γ' => ∃ c, r = .d (.bl c) ∧ N (.d (.bl c)) Γ') [r2, r1] Γ2) (hm : behindInMarks .In b = false := by first | exact nomark _ | rfl) : EW X Z Γ (.Compare a [.In] [b] pos) N :=
  own2 (pe := fun t _ => t) (rr := rInOwn C (spC X.K ct) false) (fun _ _ ha hb => pe_cmpR (op_inOwn D hr) ha hb hm) _ (fun {M σ H r1 r2 Γ2 x y} A q1 n1 q2 n2 ⟨o2, cp⟩ Q k => by
    obtain ⟨b, dy, gs, e2, h2⟩ := o2.get A q2
    refine ⟨b, dy, gs, e2, h2, ?_⟩
    refine spC.imp (fun v H' q => q) (fun c d H' q => WE_false q) (call_sp (Q := fun v H' => ∃ c, v = .bl c ∧ Q (.bl (if false then !c else c)) H') A (.cons q2 (.cons q1 .nil)) (nn2 n2 n1) cp fun r v Γ' M' H' ⟨c, er, n⟩ A' T' q => ?_)
    subst er
    exact ⟨c, Rep.bl_inv q, k _ _ _ _ _ n A' T' (.bl c)⟩) h
theorem ew_ninOwn (D : Dun X.prog X.w X.K X.mg X.base C "__contains__" k (spC X.K ct)) (hr : Room k X.A)
    (h : EW X Z Γ a fun r1 Γ1 => Fz r1 Γ1 fun r1 Γ1 => EW X Z Γ1 b fun r2 Γ2 => Fz r2 Γ2 fun r2 Γ2 => isObj C Γ2 r2 ∧ CallPost ct NoX (fun r Γ' => ∃ c, r = .d (.bl c) ∧ N (.d (.bl (!c))) Γ') [r2, r1] Γ2) (hm : behindInMarks .NotIn b = false := by first | exact nomark _ | rfl) : EW X Z Γ (.Compare a [.NotIn] [b] pos) N :=
  own2 (pe := fun t _ => t) (rr := rInOwn C (spC X.K ct) true) (fun _ _ ha hb => pe_cmpR (op_ninOwn D hr) ha hb hm) _ (fun {M σ H r1 r2 Γ2 x y} A q1 n1 q2 n2 ⟨o2, cp⟩ Q k => by
    obtain ⟨b, dy, gs, e2, h2⟩ := o2.get A q2
    refine ⟨b, dy, gs, e2, h2, ?_⟩
    refine spC.imp (fun v H' q => q) (fun c d H' q => WE_false q) (call_sp (Q := fun v H' => ∃ c, v = .bl c ∧ Q (.bl (if true then !c else c)) H') A (.cons q2 (.cons q1 .nil)) (nn2 n2 n1) cp fun r v Γ' M' H' ⟨c, er, n⟩ A' T' q => ?_)
    subst er
    exact ⟨c, Rep.bl_inv q, k _ _ _ _ _ n A' T' (.bl _)⟩) h
theorem ew_lenOwn (D : Dun X.prog X.w X.K X.mg X.base C "__len__" k (spC X.K ct)) (hr : Room (k + 1) X.A) (hm : X.mg "len" = none)
    (h : AW X Z Γ [e] fun rs Γ1 => ∃ r, rs = [r] ∧ isObj C Γ1 r ∧ CallPost ct NoX (fun r Γ' => ∃ n, r = .d (.int n) ∧ (0 ≤ n ∧ n < 2 ^ 63) ∧ N (.d (.int n)) Γ') [r] Γ1) (hg : Gl X "len" := by rfl) (he : starEach (e :: []) X.env = (false, eval e X.env) :: starEach [] X.env := by rfl) (hpl : (backTo pos (starEach [] X.env)).any (·.1) = false := by rfl) : EW X Z Γ (.Call (.Name "len" p) [e] [] pos) N := by
  refine pe_imp (pe_callB (call_lenOwn D hr) hg hm boot_len h (by decide) (by decide) he hpl) fun σ H Q ⟨M, A, k⟩ => ?_
  refine ⟨M, A, fun rs vs Γ1 M1 H1 ⟨r, er, o1, cp⟩ nn A1 T1 q1 => ?_⟩
  subst er
  cases q1 with
  | cons q1 q2 =>
    cases q2
    obtain ⟨b, dy, gs, e2, h2⟩ := o1.get A1 q1
    subst e2
    refine ⟨b, dy, gs, rfl, h2, ?_⟩
    refine spC.imp (fun v H' q => q) (fun c d H' q => WE_false q) (call_sp (Q := fun v H' => ∃ n, v = .int n ∧ (0 ≤ n ∧ n < 2 ^ 63) ∧ Q (.int n) H') A1 (.cons q1 .nil) nn cp fun r v Γ' M' H' ⟨n, er, hn, nn⟩ A' T' q => ?_)
    subst er
    exact ⟨n, Rep.int_inv q, hn, k _ _ _ _ _ nn A' (T1.trans T') (.int n)⟩
theorem ew_boolOwn (D : Dun X.prog X.w X.K X.mg X.base C "__bool__" k (spC X.K ct)) (hr : Room (k + 2) X.A) (hm : X.mg "bool" = none)
    (h : AW X Z Γ [e] fun rs Γ1 => ∃ r, rs = [r] ∧ isObj C Γ1 r ∧ CallPost ct NoX (fun r Γ' => ∃ n, r = .d (.bl n) ∧ N (.d (.bl n)) Γ') [r] Γ1) (hg : Gl X "bool" := by rfl) (he : starEach (e :: []) X.env = (false, eval e X.env) :: starEach [] X.env := by rfl) (hpl : (backTo pos (starEach [] X.env)).any (·.1) = false := by rfl) : EW X Z Γ (.Call (.Name "bool" p) [e] [] pos) N := by
  refine pe_imp (pe_callTy (call_boolOwn D hr) hg hm (by decide +kernel) h (by decide) (by decide) he hpl) fun σ H Q ⟨M, A, k⟩ => ?_
  refine ⟨M, A, fun rs vs Γ1 M1 H1 ⟨r, er, o1, cp⟩ nn A1 T1 q1 => ?_⟩
  subst er
  cases q1 with
  | cons q1 q2 =>
    cases q2
    obtain ⟨b, dy, gs, e2, h2⟩ := o1.get A1 q1
    subst e2
    refine ⟨b, dy, gs, rfl, h2, ?_⟩
    refine spC.imp (fun v H' q => q) (fun c d H' q => WE_false q) (call_sp (Q := fun v H' => ∃ n, v = .bl n ∧ Q (.bl n) H') A1 (.cons q1 .nil) nn cp fun r v Γ' M' H' ⟨n, er, nn⟩ A' T' q => ?_)
    subst er
    exact ⟨n, Rep.bl_inv q, k _ _ _ _ _ nn A' (T1.trans T') (.bl n)⟩
end
end Lw

namespace Lw
open PySem L2 PyProof.Rows
/-! own __iter__ = iter(self.f), f a tuple -/
/-! ### a heap with more room -/
def padH (h : Heap) (n : Nat) : Heap := { h with objs := h.objs ++ Array.replicate (n - h.objs.size) ⟨.none, none, .freed, #[]⟩ }
theorem padH_get {h : Heap} {n : Nat} (a : Addr) : (padH h n).get? a = h.get? a := by
  unfold padH Heap.get?
  by_cases ha : a < h.objs.size
  · simp only [Array.getElem?_append_left ha]
  · have h1 : h.objs[a]? = none := Array.getElem?_eq_none (Nat.le_of_not_lt ha)
    simp only [Array.getElem?_append_right (Nat.le_of_not_lt ha), h1]
    by_cases hb : a - h.objs.size < n - h.objs.size
    · have : (Array.replicate (n - h.objs.size) (⟨.none, none, .freed, #[]⟩ : Obj))[a - h.objs.size]? = some ⟨.none, none, .freed, #[]⟩ := by
        rw [Array.getElem?_replicate, if_pos hb]
      rw [this]
    · have : (Array.replicate (n - h.objs.size) (⟨.none, none, .freed, #[]⟩ : Obj))[a - h.objs.size]? = none := by
        rw [Array.getElem?_replicate, if_neg hb]
      rw [this]
theorem padH_size {h : Heap} {n : Nat} (hn : h.objs.size ≤ n) : (padH h n).objs.size = n := by
  unfold padH
  simp only [Array.size_append, Array.size_replicate]
  omega
theorem padH_keep {h : Heap} {n : Nat} : ∀ b o, h.get? b = some o → (padH h n).get? b = some o := fun b o e => by rw [padH_get]; exact e
theorem padH_funs {h b : Heap} {n : Nat} : ∀ {l : List Env}, h.FunFrames b l → h.FunFrames (padH b n) l
  | [], _ => True.intro
  | _ :: _, ⟨h1, ⟨L, o, e1, e2, e3⟩, h3⟩ => ⟨h1, ⟨L, o, e1, by rw [padH_get]; exact e2, e3⟩, padH_funs h3⟩
theorem padH_mod {K : PySem.W.Frag} {mg : Str → Option Value} {b : Heap} {n : Nat} (M : Mod K mg b) : Mod K mg (padH b n) :=
  ⟨M.kin.keeps padH_keep, M.glob.keeps padH_keep, let ⟨mb, x, y⟩ := M.blt; ⟨mb, x.keeps padH_keep, y⟩, M.nolimit.keeps padH_keep⟩
def ItT (t it : Addr) (i : Nat) : HO := .ext fun h => h.IsTupleIter it t i
theorem itT_ok {P : Program} {w : World} {H : Hp} {h : Heap} {t it : Addr} {i : Nat} (e : h.IsTupleIter it t i) : ObjOk P w H h it (ItT t it i) := ⟨e, let ⟨o, a, _⟩ := e; ⟨o, a⟩, fun h1 h2 q k => q.at k⟩
/-! ### iter(t), self.f; what the two defs promise -/
def rIterT (K : PySem.W.Frag) (n : Nat) : List V → Hp → VK → Prop := fun xs H Q => ∃ t zs, xs = [.ref t] ∧ SqT K H t zs ∧ ∀ it, H it = none → n ≤ it → Q (.ref it) (upd H it (ItT t it 0))
def spIt (K : PySem.W.Frag) (C : Addr) (fl : Str) (n : Nat) : Sp := fun vs H Q _ => ∃ a dx fs t zs, vs = [.ref a] ∧ H a = some (.ins C dx fs) ∧ fs.lookup fl = some (.ref t) ∧ SqT K H t zs ∧ ∀ it, H it = none → n ≤ it → Q (.ref it) (upd H it (ItT t it 0))
def spLn (K : PySem.W.Frag) (C : Addr) (fl : Str) : Sp := fun vs H Q _ => ∃ a dx fs t zs, vs = [.ref a] ∧ H a = some (.ins C dx fs) ∧ fs.lookup fl = some (.ref t) ∧ SqT K H t zs ∧ Q (.int zs.length) H
section
variable {X : L2.Cx}
theorem call_iterT : CallR X (.builtin "iter") (rIterT X.K X.base.objs.size) := by
  intro pins s σ H xs us Q I r h
  obtain ⟨t, zs, rfl, hq, q⟩ := h
  obtain ⟨u, rfl, ru⟩ := r.one
  cases ru
  obtain ⟨its, rv, pl, hz⟩ := I.tuple hq
  refine Calls.call_function_entry (by decide +kernel) (by decide +kernel) PySem.W.kdk_entry_iter (PySem.W.kdk_args_iter _) ?_
  unfold Builtin.«iter»
  refine wpAny_bind (m := someArgs "iter" 1 2 _) (wpAny_of_eq (a := [Value.ref t]) (by first | rfl | kernel_rfl!) ?_)
  show wpAny _ _ (pyIter (.ref t) >>= _) _ _ _
  refine wpAny_bind (wpAny_pyIter_tuple (show s.heap.IsTuple t its.toArray from pl) ?_)
  exact wpAny_pure ⟨_, rfl, .ref s.heap.objs.size, _, I.laid (t' := s.toks) (fun b u e => Heap.get?_push_of_some _ e) (Nat.le_refl _) (itT_ok ⟨_, Heap.get?_push_size _ rfl, rfl, rfl⟩), rfl, q _ (I.hok.fresh (Nat.le_refl _)) (Nat.le_trans I.ok.bsz I.sz)⟩
end
section
variable {P : Program} {w : World} {K : PySem.W.Frag} {mg : Str → Option Value} {base : Heap} {C : Addr} {fl : Str} {f : Addr} {fd : FuncData} {N ps : List Str} {x qual : Str} {st : Stmt} {p1 p2 p3 p4 p5 : Pos}
theorem passF {X : L2.Cx} : Passes (L2.CX X.prog X.w) X XF := fun _ _ _ _ _ _ _ h => (cx_false h).elim
theorem ok_it (F : Fun K x qual st f fd) (S : FnScope ["self"] ["self"] (defScope st)) (hb : defBody st = [.Return (some (.Call (.Name "iter" p1) [.Attribute (.Name "self" p2) fl p3] [] p4)) p5]) (zi : mg "iter" = none) (hs : Loc (defScope st) "self") (hc : Cls K C) (hn : NoAttr K C fl)
    (hg : (envOfC qual (defScope st) 0 0 .none).kindOf "iter" = some .globalImplicit) : FnOk P w K mg base (L2.CX P w) 1 f fd ["self"] (spIt K C fl base.objs.size) := by
  refine F.okX S (fun vs H Q E h => ?_) (fun cdv A outer s H vs Q E hr h => ?_)
  · obtain ⟨a, dx, fs, t, zs, e, _⟩ := h
    rw [e]; rfl
  · obtain ⟨a, dx, fs, t, zs, rfl, ha, hl, ht, q⟩ := h
    rw [hb]
    have h1 : PE (cxOf (L2.CX P w) P w K mg base ["self"] qual (defScope st) f cdv A outer s H E) (.Name "self" p2) (tVar 0) := pe_var (i := 0) rfl (hs.elim .inl fun z => .inr (.inl z))
    have h2 : PE (cxOf (L2.CX P w) P w K mg base ["self"] qual (defScope st) f cdv A outer s H E) (.Attribute (.Name "self" p2) fl p3) (tFld K (tVar 0) fl) := pe_fld h1 rfl
    refine ⟨_, pss_one (ps_ret (pe_callB call_iterT hg zi (by first | rfl | decide +kernel) (pa_cons h2 pa_nil))), ?_⟩
    exact ⟨.ref a, rfl, a, C, dx, fs, .ref t, rfl, ha, hc, hn, hl, t, zs, rfl, ht, fun it h1 h2 => q it h1 h2⟩
theorem ok_ln (F : Fun K x qual st f fd) (S : FnScope ["self"] ["self"] (defScope st)) (hb : defBody st = [.Return (some (.Call (.Name "len" p1) [.Attribute (.Name "self" p2) fl p3] [] p4)) p5]) (zi : mg "len" = none) (hs : Loc (defScope st) "self") (hc : Cls K C) (hn : NoAttr K C fl)
    (hg : (envOfC qual (defScope st) 0 0 .none).kindOf "len" = some .globalImplicit) : FnOk P w K mg base (L2.CX P w) 1 f fd ["self"] (spLn K C fl) := by
  refine F.okX S (fun vs H Q E h => ?_) (fun cdv A outer s H vs Q E hr h => ?_)
  · obtain ⟨a, dx, fs, t, zs, e, _⟩ := h
    rw [e]; rfl
  · obtain ⟨a, dx, fs, t, zs, rfl, ha, hl, ht, q⟩ := h
    rw [hb]
    have h1 : PE (cxOf (L2.CX P w) P w K mg base ["self"] qual (defScope st) f cdv A outer s H E) (.Name "self" p2) (tVar 0) := pe_var (i := 0) rfl (hs.elim .inl fun z => .inr (.inl z))
    have h2 : PE (cxOf (L2.CX P w) P w K mg base ["self"] qual (defScope st) f cdv A outer s H E) (.Attribute (.Name "self" p2) fl p3) (tFld K (tVar 0) fl) := pe_fld h1 rfl
    refine ⟨_, pss_one (ps_ret (pe_callB call_len_seq hg zi boot_len (pa_cons h2 pa_nil))), ?_⟩
    exact ⟨.ref a, rfl, a, C, dx, fs, .ref t, rfl, ha, hc, hn, hl, t, zs, rfl, .inr ht, q⟩
end

section
variable {X : L2.Cx} {Z : Zc} {Γ : List Sl} {N : Rv → List Sl → Prop} {e tg : Expr} {es : List Expr} {pos apos p : Pos} {C : Addr} {fl : Str} {te : TE}
/-- the class at C walks by iter(self.fl) -/
structure ItO (P : Program) (w : World) (K : PySem.W.Frag) (mg : Str → Option Value) (C : Addr) (fl : Str) : Prop where
  ex : ∃ (f : Addr) (fd : FuncData) (ps : List Str), (∀ base, FnOk P w K mg base (L2.CX P w) 1 f fd ps (spIt K C fl base.objs.size)) ∧ PySem.W.findIn K (.ref C) "__iter__" = some (some (.ref f)) ∧ PySem.W.isFn K (.ref f) = true ∧ Binds K fd ps []
structure LnO (P : Program) (w : World) (K : PySem.W.Frag) (mg : Str → Option Value) (C : Addr) (fl : Str) : Prop where
  ex : ∃ (f : Addr) (fd : FuncData) (ps : List Str), (∀ base, FnOk P w K mg base (L2.CX P w) 1 f fd ps (spLn K C fl)) ∧ PySem.W.findIn K (.ref C) "__len__" = some (some (.ref f)) ∧ PySem.W.isFn K (.ref f) = true ∧ Binds K fd ps []
/-- iter(o): a young iterator over the tuple -/
theorem run_it {A' : Around} {pins : List (Addr × Obj)} {σ : L2.St} {H : Hp} {s : Shared} {a dx t : Addr} {fs : List (Str × V)} {zs : List V} (D : ItO X.prog X.w X.K X.mg C fl) (hr : Room 1 A') (hf : A'.frames = X.A.frames) (I : Inv X pins σ H s) (ha : H a = some (.ins C dx fs)) (hl : fs.lookup fl = some (.ref t)) (ht : SqT X.K H t zs)
    {Q : Value → Shared → Prop} {E : Value → Shared → Prop} (hq : ∀ it s', s.heap.objs.size ≤ it → H it = none → Inv X pins σ (upd H it (ItT t it 0)) s' → Q (.ref it) s') : wpAny (model X.prog X.w) A' (pyIter (.ref a)) Q E s := by
  obtain ⟨f, fd, ps, F, hs, hff, hb⟩ := D.ex
  obtain ⟨_, _, J⟩ := Inv.inst I ha
  obtain ⟨m, hF⟩ := I.fr
  refine PySem.W.owit_iter hF I.ok.mod.kin J hs hff ?_
  have hsz : (padH X.base s.heap.objs.size).objs.size = s.heap.objs.size := padH_size (Nat.le_trans I.ok.bsz I.sz)
  have F1 := F (padH X.base s.heap.objs.size)
  rw [hsz] at F1
  have h : spIt X.K C fl s.heap.objs.size [.ref a] H (fun v H' => ∃ it, v = .ref it ∧ s.heap.objs.size ≤ it ∧ H it = none ∧ H' = upd H it (ItT t it 0)) XF := ⟨a, dx, fs, t, zs, rfl, ha, hl, ht, fun it h1 h2 => ⟨it, rfl, h2, h1, rfl⟩⟩
  have hlen := F1.len _ _ _ _ h
  have hbb := hb s [.ref a] I.kIn hlen
  have e := I.env0
  refine wpAny_call (codeAny_mono (F1.run A' X.stack s H ⟨[.ref a], []⟩ [.ref a] [.ref a] _ XF hr ⟨by rw [hf]; exact e.frames, padH_mod e.mod, fun b o q => e.bs b o (by rw [padH_get] at q; exact q), by rw [hsz]; exact Nat.le_refl _, padH_funs e.funs, e.frf, e.hok, e.bare⟩ hbb (.cons (rref a) .nil) h) fun r s' hr' => ?_)
  cases r with
  | error e => exact (cx_false hr').elim
  | ok fl =>
    cases fl with
    | next => exact False.elim hr'
    | brk => exact False.elim hr'
    | cont => exact False.elim hr'
    | ret u =>
      obtain ⟨v, H', I', rv, it, ev, h1, h2, eH⟩ := I.after hr'
      subst ev; subst eH
      cases rv
      have hu : upd H it (ItT t it 0) it = some (ItT t it 0) := upd_same
      have st : s'.heap.IsTupleIter it t 0 := (I'.hok it _ hu).1
      unfold PySem.W.OwitIt
      exact wpAny_specialOf (name := Str.ofString "__next__") st.typeIs PySem.F.slot_tuple_iterator_next.lookup (hq it s' h1 h2 I')
/-- for x in o -/
def iOwn (K : PySem.W.Frag) (C : Addr) (fl : Str) (te : TE) : TI := fun σ H R => te σ H fun x H1 => ∃ a dx fs t zs, x = .ref a ∧ H1 a = some (.ins C dx fs) ∧ fs.lookup fl = some (.ref t) ∧ SqT K H1 t zs ∧ R (Itt K t) H1
theorem pi_own (D : ItO X.prog X.w X.K X.mg C fl) (hr : Room 1 X.A) (he : PE X e te) : PI X tg e (iOwn X.K C fl te) := by
  refine ⟨fun pins s σ H R I h => ?_⟩
  refine thn (he.run pins s σ H _ I h) fun v s1 ⟨x, H1, I1, r1, q1⟩ => ?_
  obtain ⟨a, dx, fs, t, zs, ex, ha, hl, ht, q⟩ := q1
  subst ex
  cases r1
  refine run_it D hr rfl I1 ha hl ht fun it s' h1 h2 I2 => ?_
  have hu : upd H1 it (ItT t it 0) it = some (ItT t it 0) := upd_same
  have st : s'.heap.IsTupleIter it t 0 := (I2.hok it _ hu).1
  have I3 := ItX.inv_drop I2 hu
  have fp := ItX.inv_fp I2 hu (Nat.le_trans I1.sz h1)
  rw [ItX.dropH_upd h2] at I3 fp
  refine ⟨it, [it], _, _, H1, rfl, I3, turn_tuple t it, st, fun b hb => ?_, q⟩
  have e : b = it := by simpa using hb
  rw [e]
  exact fp
/-! ### list(o) -/
theorem if_yes {α : Type} {M : Model} {A : Around} {E : Value → Shared → Prop} {s : Shared} {c : Bool} {a b : Sem α} {Q : α → Shared → Prop} (hc : c = true) (h : wpAny M A a Q E s) : wpAny M A (if c = true then a else b) Q E s := by
  rw [if_pos hc]; exact h
theorem own_hintL {A' : Around} {pins : List (Addr × Obj)} {σ : L2.St} {H : Hp} {s : Shared} {a dx t : Addr} {fs : List (Str × V)} {zs : List V} {Q : Bool → Shared → Prop} {E : Value → Shared → Prop} (D : LnO X.prog X.w X.K X.mg C fl) (hr : Room 2 A') (hf : A'.frames = X.A.frames) (I : Inv X pins σ H s) (ha : H a = some (.ins C dx fs)) (hl : fs.lookup fl = some (.ref t)) (ht : SqT X.K H t zs)
    (hq : ∀ b s', Inv X pins σ H s' → Q b s') : wpAny (model X.prog X.w) A' (Builtin.List.listLengthHint (.ref a)) Q E s := by
  obtain ⟨f, fd, ps, F, hs, hff, hb⟩ := D.ex
  obtain ⟨_, _, J⟩ := Inv.inst I ha
  obtain ⟨m, hF⟩ := I.fr
  obtain ⟨its, rv, pl, hz⟩ := I.tuple ht
  unfold Builtin.List.listLengthHint
  refine wpAny_bind (wpAny_bind (J.type.here ((PySem.W.looks_findIn I.kIn hs).here ?_)))
  refine PySem.W.KFB.if_not rfl ?_
  refine if_yes rfl ?_
  refine wpAny_bind (wpAny_rule ?_)
  refine wpAny_bind (wpAny_attempt ?_)
  refine PySem.W.len_K hF I.ok.mod.kin J hs hff ?_
  refine wpAny_mono (run_at (F X.base) hr.in1 hf hb I (.cons (rref a) .nil) (Q := fun v H' => v = .int zs.length ∧ H' = H) ⟨a, dx, fs, t, zs, rfl, ha, hl, ht, rfl, rfl⟩ (fun _ _ => False)) (fun r s' hq' => ?_) fun _ _ z => z.elim
  obtain ⟨v, H', I', rz, ev, eH⟩ := hq'
  subst ev; subst eH
  obtain ⟨tk, rfl⟩ := (show ∃ t, r = Value.int _ t from rz)
  have hz2 : (zs.length : Int) < 2 ^ 63 := by have := line63; omega
  refine ⟨⟨by omega, hz2⟩, ?_⟩
  show wpAny _ _ (asInt? (Value.int (zs.length : Int) s'.toks) >>= _) Q E _
  refine wpAny_bind (wpAny_of_eq (a := some (zs.length : Int)) rfl ?_)
  refine PySem.W.KFB.if_not ?_ (wpAny_pure (hq _ _ (I'.tok _)))
  have hz3 : (zs.length : Int).toNat = zs.length := Int.toNat_natCast _
  show decide ((zs.length : Int).toNat > sizeLine) = false
  rw [hz3]
  exact decide_eq_false (Nat.not_lt.mpr hz)

theorem list_loop {A1 : Around} {pins : List (Addr × Obj)} {σ : L2.St} {it q t : Addr} {zs : List V} {Rs : Result → Shared → Prop} (hh : A1.handled = none) (hqt : q ≠ it) :
    ∀ (n i : Nat) (H : Hp) (s : Shared), zs.length - i = n → i ≤ zs.length → H q = some (.lst (zs.take i)) → SqT X.K H t zs → FpOk X pins H it → s.heap.IsTupleIter it t i → Inv X pins σ H s →
    (∀ s', Inv X pins σ (upd H q (.lst zs)) s' → Rs (.ok (.ret .none)) s') → codeAny (model X.prog X.w) A1 (.builtin "list.extend.loop" ⟨[.ref q, .ref it, .none], []⟩) Rs s := by
  intro n
  induction n with
  | zero =>
    intro i H s hn hi hq ht fp st I hdone
    obtain ⟨its, rv, pl, hz⟩ := I.tuple ht
    obtain ⟨f0, f1, f2, f3, f4, f5⟩ := fp
    have hlen := rv.length
    refine codeAny_builtin PySem.F.entry_extend_loop ?_
    rw [Around.under_plainId PySem.F.plain_extend_loop _]
    show wpAny _ A1.in1 (pyNext (.ref it) >>= _) _ _ s
    refine wpAny_bind (wpAny_pyNext_tuple_end (A := A1.in1) hh st (show s.heap.IsTuple t its.toArray from pl) (by simp; omega) fun h' eb => ?_)
    have I1 : Inv X pins σ H { s with heap := h' } := I.turned (t' := s.toks) (fun b o hb e => eb b o hb e) f0 f1 f3 f4 f5
    have e : i = zs.length := by omega
    rw [e, List.take_length] at hq
    have e2 : upd H q (.lst zs) = H := by
      funext b
      by_cases hb : b = q
      · rw [hb, upd_same, hq]
      · rw [upd_ne hb]
    exact wpAny_pure (hdone _ (by rw [e2]; exact I1))
  | succ n ih =>
    intro i H s hn hi hq ht fp st I hdone
    obtain ⟨its, rv, pl, hz⟩ := I.tuple ht
    obtain ⟨f0, f1, f2, f3, f4, f5⟩ := id fp
    have hlen := rv.length
    have hlt : i < zs.length := by omega
    obtain ⟨u, hu, ru⟩ := rv.get (List.getElem?_eq_getElem hlt)
    refine codeAny_builtin PySem.F.entry_extend_loop ?_
    rw [Around.under_plainId PySem.F.plain_extend_loop _]
    show wpAny _ A1.in1 (pyNext (.ref it) >>= _) _ _ s
    refine wpAny_bind (wpAny_pyNext_tuple_item st (show s.heap.IsTuple t its.toArray from pl) (x := u) (by simpa using hu) fun h' st' sb => ?_)
    have I1 : Inv X pins σ H { s with heap := h' } := I.turned (t' := s.toks) (fun b o hb e => (sb.2 b hb).trans e) f0 f1 f3 f4 f5
    show wpAny _ A1.in1 (updateSeq q (·.push u) >>= _) _ _ _
    obtain ⟨z, its2, k, r2, hl2, e⟩ := I1.lstM hq
    have htl : (zs.take i).length = i := by rw [List.length_take]; omega
    have hz2 : i < sizeLine := Nat.lt_of_lt_of_le hlt hz
    refine wpAny_bind (wpAny_updateSeq e rfl (wpAny_pure ⟨plainId_quiet PySem.F.plain_extend_loop _, ?_⟩) (by rw [List.size_toArray]; omega) (by show (its2.toArray.push u).size ≤ sizeLine + 1; rw [Array.size_push, List.size_toArray]; omega))
    have et : zs.take i ++ [zs[i]] = zs.take (i + 1) := by rw [List.take_succ, List.getElem?_eq_getElem hlt]; rfl
    have I2 := I1.lset (its' := its2 ++ [u]) (f := (·.push u)) (ys := zs.take i ++ [zs[i]]) (t' := s.toks) hq e (by simp) (r2.append (.cons ru .nil)) (by rw [List.length_append, List.length_singleton]; omega)
    rw [et] at I2
    have nit : ∀ b o, upd H q (.lst (zs.take (i + 1))) b = some o → b ≠ it := fun b o e z => by
      rw [z, upd_ne hqt.symm, f0] at e
      cases e
    refine ih (i + 1) _ _ (by omega) (by omega) upd_same ?_ ⟨by rw [upd_ne hqt.symm]; exact f0, f1, f2, f3, f4, f5⟩ ?_ I2 fun s' I' => hdone s' (by rw [upd_upd] at I'; exact I')
    · have hqt2 : ∀ o, H q = some o → ¬ ∃ vs, o = .tup vs ∨ ∃ oo u, o = .frz oo u := fun o eo => by
        rw [hq] at eo
        cases Option.some.inj eo
        rintro ⟨vs, z | ⟨_, _, z⟩⟩ <;> cases z
      rcases ht with (h | ⟨o, h⟩) | h
      · exact .inl (.inl (by rw [upd_ne (fun z => by rw [z, hq] at h; cases h)]; exact h))
      · exact .inl (.inr ⟨o, by rw [upd_ne (fun z => by rw [z, hq] at h; cases h)]; exact h⟩)
      · exact .inr h
    · refine st'.at fun o eo => ?_
      show (h'.update q (Obj.mapSeq (·.push u))).get? it = some o
      rw [Heap.get?_update_other _ _ hqt]
      exact eo

def rListOwn (K : PySem.W.Frag) (C : Addr) (fl : Str) : List V → Hp → VK → Prop := fun xs H Q => ∃ a dx fs t zs, xs = [.ref a] ∧ H a = some (.ins C dx fs) ∧ fs.lookup fl = some (.ref t) ∧ SqT K H t zs ∧ ∀ q, H q = none → Q (.ref q) (upd H q (.lst zs))
theorem sqT_new {K : PySem.W.Frag} {H : Hp} {t p : Addr} {o : HO} {zs : List V} (h : SqT K H t zs) (hp : H p = none) : SqT K (upd H p o) t zs := Ext.t (Ext.new hp) h
theorem call_listOwnT (D : ItO X.prog X.w X.K X.mg C fl) (L : LnO X.prog X.w X.K X.mg C fl) (hc : X.calm = true) (hr : Room 4 X.A) : CallR X (.type "list") (rListOwn X.K C fl) := by
  intro pins s σ H xs us Q I rv h
  obtain ⟨a, dx, fs, t, zs, rfl, ha, hl, ht, hq⟩ := h
  obtain ⟨u, rfl, ru⟩ := rv.one
  cases ru
  refine callType_codes (Q₁ := fun obj s₁ => obj = .ref s.heap.objs.size ∧ s₁ = { s with heap := s.heap.push { cls := .type "list", data := .seq #[] } }) PySem.F.called_list (PySem.F.typeCall_list_1 _) PySem.F.entry_list_init
    (code_list_new _ ⟨rfl, rfl⟩) fun obj s₁ h₁ => ?_
  obtain ⟨rfl, rfl⟩ := h₁
  have hS : (s.heap.push { cls := .type "list", data := .seq #[] }).get? s.heap.objs.size = some { cls := .type "list", data := .seq #[] } := Heap.get?_push_size _ rfl
  refine ⟨⟨_, hS, rfl⟩, PySem.F.args_list_init_2 _ _, ?_⟩
  have fr : H s.heap.objs.size = none := I.hok.fresh (Nat.le_refl _)
  have I1 : Inv X pins σ (upd H s.heap.objs.size (.lst [])) { s with heap := s.heap.push { cls := .type "list", data := .seq #[] } } := I.lnew (its := []) (t' := s.toks) .nil (Nat.zero_le _)
  show wpAny _ _ (do let old ← Builtin.List.listItems (.ref s.heap.objs.size); Builtin.List.listUpdate (.ref s.heap.objs.size) (fun _ => #[]); letGo old.toList.reverse; Builtin.List.listExtendWith (.ref s.heap.objs.size) (.ref a) .none) _ _ _
  refine wpAny_bind ?_
  unfold Builtin.List.listItems
  refine wpAny_bind (wpAny_seqItems hS rfl (wpAny_pure ?_))
  show wpAny _ _ (updateSeq s.heap.objs.size (fun _ => #[]) >>= fun _ => letGo (#[] : Array Value).toList.reverse >>= fun _ => Builtin.List.listExtendWith (.ref s.heap.objs.size) (.ref a) .none) _ _ _
  refine wpAny_bind (wpAny_updateSeq hS rfl ?_)
  have I2 := I1.lset (f := fun _ => #[]) (its := []) (its' := []) (ys := []) (t' := s.toks) upd_same hS rfl .nil (Nat.zero_le _)
  rw [upd_upd] at I2
  refine wpAny_bind (wpAny_letGo ?_)
  have ha2 : upd H s.heap.objs.size (.lst []) a = some (.ins C dx fs) := by rw [upd_ne (ne_of_none ha fr)]; exact ha
  have hne : s.heap.objs.size ≠ a := (ne_of_none ha fr).symm
  have ht2 : SqT X.K (upd H s.heap.objs.size (.lst [])) t zs := sqT_new ht fr
  obtain ⟨_, _, J⟩ := Inv.inst I2 ha2
  have h1 : Builtin.List.listSameRef (.ref s.heap.objs.size) (.ref a) = false := by simp [Builtin.List.listSameRef, hne]
  generalize hqq : s.heap.objs.size = q at *
  unfold Builtin.List.listExtendWith
  refine wpAny_bind (J.type.here ?_)
  have h2 : (Value.ref C == Value.type "list") = false := rfl
  have h3 : (Value.ref C == Value.type "tuple") = false := rfl
  simp only [h1, h2, h3, Bool.or_false, Bool.false_eq_true, if_false]
  refine wpAny_bind (run_it D (hr.in1.in1.mono (by omega)) rfl I2 ha2 hl ht2 fun it s2 hy hit I3 => ?_)
  have hqi : q ≠ it := fun z => by rw [← z, upd_same] at hit; cases hit
  have ha3 : upd (upd H q (.lst [])) it (ItT t it 0) a = some (.ins C dx fs) := by rw [upd_ne (ne_of_none ha2 hit)]; exact ha2
  have hq3 : upd (upd H q (.lst [])) it (ItT t it 0) q = some (.lst []) := by rw [upd_ne hqi]; exact upd_same
  refine wpAny_bind (wpAny_holding (own_hintL L (hr.in1.in1.mono (by omega)) rfl I3 ha3 hl (sqT_new ht2 hit) fun b s3 I4 => ?_))
  have fin : ∀ s', Inv X pins σ (upd (upd H q (.lst [])) it (ItT t it 0)) s' → codeAny (model X.prog X.w) X.A.in1 (.builtin "list.extend.loop" ⟨[.ref q, .ref it, .none], []⟩) (wants (fun r s₂ => r = .none ∧ EP X pins σ Q (.ref q) s₂) X.xe) s' := fun s' I5 => by
    have hu : upd (upd H q (.lst [])) it (ItT t it 0) it = some (ItT t it 0) := upd_same
    have st : s'.heap.IsTupleIter it t 0 := (I5.hok it _ hu).1
    have I6 := ItX.inv_drop I5 hu
    have fp := ItX.inv_fp I5 hu (Nat.le_trans I2.sz hy)
    rw [ItX.dropH_upd hit] at I6 fp
    refine list_loop (A1 := X.A.in1) (zs := zs) (I.ok.hd hc) hqi zs.length 0 _ s' (by omega) (Nat.zero_le _) (by rw [List.take_zero]; exact upd_same) ht2 fp st I6 fun s6 I7 => ⟨rfl, .ref q, _, I7, rfl, ?_⟩
    rw [upd_upd]
    exact hq q fr
  obtain ⟨z, its, k, r3, hl3, e3⟩ := I4.lstM hq3
  cases r3
  refine wpAny_ite_split (fun _ => ?_) (fun _ => wpAny_pure ⟨plainId_quiet PySem.F.plain_extend_loop _, fin s3 I4⟩)
  refine wpAny_bind (wpAny_rule ?_)
  refine wpAny_bind ?_
  show wpAny _ _ (updateSeq q (·.push .none) >>= fun _ => updateSeq q (·.pop)) _ _ _
  refine wpAny_bind (wpAny_updateSeq e3 rfl ?_)
  have I8 := I4.lset (f := (·.push Value.none)) (its' := [Value.none]) (ys := [.non]) (t' := s3.toks) hq3 e3 (by simp) (.cons rfl .nil) (by rw [List.length_singleton, sizeLine_eq]; decide)
  obtain ⟨z4, its4, k4, r4, hl4, e4⟩ := I8.lstM upd_same
  obtain ⟨u4, rfl, ru4⟩ := r4.one
  refine wpAny_updateSeq e4 rfl ?_ (by show 1 ≤ sizeLine; rw [sizeLine_eq]; decide) (by show 0 ≤ sizeLine + 1; exact Nat.zero_le _)
  refine wpAny_pure ⟨plainId_quiet PySem.F.plain_extend_loop _, fin _ ?_⟩
  have I9 := I8.lset (f := (·.pop)) (its := [u4]) (its' := []) (ys := []) (t' := s3.toks) upd_same e4 (by rfl) .nil (Nat.zero_le _)
  rw [upd_upd] at I9
  have hH : upd (upd (upd H q (.lst [])) it (ItT t it 0)) q (.lst []) = upd (upd H q (.lst [])) it (ItT t it 0) := by
    funext b
    by_cases hb : b = q
    · rw [hb, upd_same, hq3]
    · rw [upd_ne hb]
  rw [hH] at I9
  exact I9
/-! ### over data -/
/-- r is an instance of the class at C whose tuple has ds -/
def OwnSrc (C : Addr) (fl : Str) (Γ : List Sl) (r : Rv) (ds : List D) : Prop := ∃ gs, view Γ r = some (.obj C gs) ∧ gs.lookup fl = some (.tup ds)
theorem iw_own {R : Src} (D : ItO X.prog X.w X.K X.mg C fl) (hr : Room 1 X.A) (h : EW X Z Γ e fun r Γ1 => Fz r Γ1 fun r Γ1 => ∃ ds, (∃ d, r = .d d ∨ r = .bo d) ∧ OwnSrc C fl Γ1 r ds ∧ R ds.length (fun k => ds.getD k .non) Γ1) : IW X Z Γ tg e R := by
  refine pi_imp (pi_own D hr h) fun σ H RR ⟨M, A, k⟩ => ?_
  refine ⟨M, A, fun r v Γ1 M1 H1 n1 A1 T1 q1 => ?_⟩
  obtain ⟨M2, r', A2, T2, q2, nn, ds, _, ⟨gs, w, hl⟩, n2⟩ := A1.fz' q1 n1
  obtain ⟨a, dx, fs, ev, ho, rf⟩ := Rep1.obj_inv A2.ext (A2.view q2 w)
  obtain ⟨u, hu, ru⟩ := rf.lookup hl
  obtain ⟨t, ws, eu, s, rr⟩ := Rep.tup_inv ru
  subst eu
  refine ⟨a, dx, fs, t, ws, ev, ho, hu, Ext.t Hd_ext s, k _ _ _ M2 H1 _ n2 A2 (T1.trans T2) fun j M Γ σ H A T => ⟨fun lt => ?_, fun le => ⟨ws, Ext.t Hd_ext (Ext.t T.s s), by rw [rr.length]; exact le⟩⟩⟩
  have sl : SqT X.K H t ws := Ext.t Hd_ext (Ext.t T.s s)
  have hj : j < ws.length := by rw [rr.length]; exact lt
  refine ⟨⟨ws, ws[j], sl, List.getElem?_eq_getElem hj⟩, fun x H' ⟨e, y⟩ => ?_⟩
  subst e
  exact ⟨Ext.refl _, Rep.mono T.s (item_of rr (y ws sl))⟩
theorem on_listOwn {K : PySem.W.Frag} {ds : List D} {gs : List (Str × D)} (hl : gs.lookup fl = some (.tup ds)) : OpN K (rListOwn K C fl) [.obj C gs] (.nw (.lst ds)) := fun H Hs x vs Q r q => by
  obtain ⟨v, e, r⟩ := r.one
  obtain ⟨a, dx, fs, e2, ho, rf⟩ := r.obj_inv x
  subst e; subst e2
  obtain ⟨u, hu, ru⟩ := rf.lookup hl
  obtain ⟨t, ws, eu, s, rr⟩ := Rep.tup_inv ru
  subst eu
  exact ⟨a, dx, fs, t, ws, rfl, ho, hu, Ext.t x s, fun l hl => q _ _ ⟨l, _, rfl, hl, rfl, .lst rr⟩⟩
end
end Lw

namespace Lw
open PySem L2 PyProof.Rows
section
variable {X : L2.Cx} {Z : Zc} {Γ : List Sl} {N : Rv → List Sl → Prop} {elt tg iter : Expr} {pos spos p : Pos} {P : Po}
/-- y = [..], a statement of its own -/
theorem sw_setLc {i : Nat} {y : Str} {ifs : List Expr} {scope : Scope} {own : List (Str × Nat)} (hc : X.calm = true) (hN : X.N.Nodup) (hi : X.N[i]? = some y) (hy : X.env.scope.names.lookup y = some .local) (ok : BlkOk X.N X.env.scope scope own)
    (h : IW X Z Γ tg iter (LcOK X elt tg ifs scope (own.map (·.2)) fun r Γ1 => Asg r i Γ1 P.nx))
    (hsw : swapsWith (.ListComp elt [⟨tg, iter, ifs, 0⟩] scope pos) (some (.Name y p)) spos.line X.env = pure true) (hs : ∀ x, foldedSetIterable iter X.env x = pure x := by intro _; rfl) : SW X Z Γ (.Assign [.Name y p] (.ListComp elt [⟨tg, iter, ifs, 0⟩] scope pos) spos) P := by
  obtain ⟨g, tt, te, hg, ht, he, q⟩ := lc_parts (X := X) (Z := Z) (N := fun r Γ1 => Asg r i Γ1 P.nx) (elt := elt) (tg := tg) (ifs := ifs) (scope := scope) (vs := own.map (·.2))
  refine ps_imp (ps_setLc hc hN hi hy hsw h ok hg ht he hs) fun D σ H ⟨M, A, k1, k2, k3, k4⟩ => ?_
  refine ⟨M, A, fun n item Γ1 M1 H1 J lo A1 T1 wk => q lo A1 wk (fun v H' => D.nx (σ.set i (some v)) H') fun r v Γ' M' H' n A' T' q => ?_⟩
  obtain ⟨M2, Γ2, A2, T2, n⟩ := A'.asg q n
  exact k1 _ _ _ _ n A2 ((T1.trans T').trans T2)
end
end Lw

namespace Lw
open PySem L2 PyProof.Rows
/-! operators by what their operands are -/
def R2or (r1 r2 : R2) : R2 := fun x y H Q => r1 x y H Q ∨ r2 x y H Q
theorem opr_or {X : L2.Cx} {f : Value → Value → Sem Value} {r1 r2 : R2} (h1 : OpR X f r1) (h2 : OpR X f r2) : OpR X f (R2or r1 r2) := fun pins s σ H x y v u Q I rx ry h =>
  h.elim (h1 pins s σ H x y v u Q I rx ry) (h2 pins s σ H x y v u Q I rx ry)
theorem o2_l {K : PySem.W.Frag} {r1 r2 : R2} {d1 d2 : D} {rs : Rs} (h : Op2 K r1 d1 d2 rs) : Op2 K (R2or r1 r2) d1 d2 rs := fun H Hs e x y Q a b q => .inl (h H Hs e x y Q a b q)
theorem o2_r {K : PySem.W.Frag} {r1 r2 : R2} {d1 d2 : D} {rs : Rs} (h : Op2 K r2 d1 d2 rs) : Op2 K (R2or r1 r2) d1 d2 rs := fun H Hs e x y Q a b q => .inr (h H Hs e x y Q a b q)
theorem o2_fdivW {K : PySem.W.Frag} {i j : Int} (hc : CDivW i j) : Op2 K (rI CDivW fun i j => .int (i / j)) (.int i) (.int j) (.sc (.int (i / j))) := o2_I (G := fun i j => .int (i / j)) (fun _ _ _ => .int _) hc
theorem o2_mulW {K : PySem.W.Frag} {i j : Int} (hc : CMulW i j) : Op2 K (rI CMulW fun i j => .int (i * j)) (.int i) (.int j) (.sc (.int (i * j))) := o2_I (G := fun i j => .int (i * j)) (fun _ _ _ => .int _) hc
theorem ixN_of {n : Nat} {k : Int} (h0 : 0 ≤ k) (h1 : k < n) : ixN n k = some k.toNat := by
  unfold ixN
  split <;> first | rfl | (exfalso; omega) | (split <;> first | rfl | (exfalso; omega)) | skip

theorem o2_addE {K : PySem.W.Frag} {i j k : Int} (e : i + j = k) : Op2 K (rI0 fun i j => .int (i + j)) (.int i) (.int j) (.sc (.int k)) := e ▸ o2_add
theorem o2_subE {K : PySem.W.Frag} {i j k : Int} (e : i - j = k) : Op2 K (rI0 fun i j => .int (i - j)) (.int i) (.int j) (.sc (.int k)) := e ▸ o2_sub
theorem o2_mulE {K : PySem.W.Frag} {i j k : Int} (hc : CMul i j) (e : i * j = k) : Op2 K (rI CMul fun i j => .int (i * j)) (.int i) (.int j) (.sc (.int k)) := e ▸ o2_mul hc
theorem o2_powE {K : PySem.W.Frag} {i j k : Int} (hc : CPow i j) (e : i ^ j.toNat = k) : Op2 K (rI CPow fun i j => .int (i ^ j.toNat)) (.int i) (.int j) (.sc (.int k)) := e ▸ o2_pow hc
theorem o1_negE {K : PySem.W.Frag} {i k : Int} (e : -i = k) : Op1 K (rU fun i => .int (-i)) (.int i) (.sc (.int k)) := e ▸ o1_neg
theorem atI_get {xs : List D} {i : Int} (h0 : 0 ≤ i) (h1 : i < xs.length) : atI xs i = some (xs.getD i.toNat .non) := by
  unfold atI
  rw [ixN_of h0 h1]
  have h2 : i.toNat < xs.length := by omega
  show xs[i.toNat]? = _
  rw [List.getD_eq_getElem?_getD, List.getElem?_eq_getElem h2]; rfl
theorem atI_map {ns : List Int} {i : Int} (h0 : 0 ≤ i) (h1 : i < ns.length) : atI (ns.map D.int) i = some (.int (ns.getD i.toNat 0)) := by
  rw [atI_get h0 (by rw [List.length_map]; exact h1)]
  have h2 : i.toNat < ns.length := by omega
  rw [List.getD_eq_getElem?_getD, List.getD_eq_getElem?_getD, List.getElem?_map, List.getElem?_eq_getElem h2]; rfl
theorem atI_mapN {ns : List Int} {i : Int} (n : Int) (hn : (ns.length : Int) = n) (h0 : 0 ≤ i) (h1 : i < n) : atI (ns.map D.int) i = some (.int (ns.getD i.toNat 0)) := atI_map h0 (by omega)
theorem pw_eq {k : Nat} {d d' : D} (h : d = d') : some (Sl.pw k d) = some (Sl.pw k d') := by rw [h]
theorem new_eq {d d' : D} (h : d = d') : Rv.new d = Rv.new d' := by rw [h]
theorem cons_eq {a b : Sl} {as bs : List Sl} (h : a = b) (t : as = bs) : a :: as = b :: bs := by rw [h, t]
theorem sim_eq {d d' : D} (h : d = d') : Sl.im d = Sl.im d' := by rw [h]
theorem sbo_eq {d d' : D} (h : d = d') : Sl.bo d = Sl.bo d' := by rw [h]
theorem sow_eq {d d' : D} (h : d = d') : Sl.ow d = Sl.ow d' := by rw [h]
theorem spw_eq {k : Nat} {d d' : D} (h : d = d') : Sl.pw k d = Sl.pw k d' := by rw [h]
theorem int_eq {i j : Int} (h : i = j) : D.int i = D.int j := by rw [h]
theorem bl_eq {i j : Bool} (h : i = j) : D.bl i = D.bl j := by rw [h]
theorem lst_eq {i j : List D} (h : i = j) : D.lst i = D.lst j := by rw [h]
theorem tup_eq {i j : List D} (h : i = j) : D.tup i = D.tup j := by rw [h]
theorem ow_eq {d d' : D} (h : d = d') : some (Sl.ow d) = some (Sl.ow d') := by rw [h]
theorem owns_ow {Γ : List Sl} {j : Nat} {d : D} (h : Γ[j]? = some (.ow d)) : Owns Γ j d := .inl h
theorem owns_pw {Γ : List Sl} {j k : Nat} {d : D} (h : Γ[j]? = some (.pw k d)) : Owns Γ j d := .inr ⟨k, h⟩
theorem views_nil {Γ : List Sl} : views Γ [] [] := trivial
theorem views_cons {Γ : List Sl} {r : Rv} {rs : List Rv} {d : D} {ds : List D} (h : view Γ r = some d) (t : views Γ rs ds) : views Γ (r :: rs) (d :: ds) := ⟨h, t⟩
theorem noOwn_nil {Γ : List Sl} : noOwn Γ [] := True.intro
theorem noOwn_cons {Γ : List Sl} {v : Nat} {s : Sl} {vs : List Nat} (h : Γ[v]? = some s) (h2 : s.owns = false) (t : noOwn Γ vs) : noOwn Γ (v :: vs) := ⟨fun s' e => by rw [h] at e; cases e; exact h2, t⟩
def OutB {α : Type} (c : Ct α) (Ex : XEx) (N : Rv → List Sl → Prop) (y : α) (b : c.β) (rs' : List Rv) (Γ2 : List Sl) : Prop := match c.out y b with
  | .ret z => N z.rv (updA (c.aft y b) rs' Γ2)
  | .exc C fs => Ex C fs (updA (c.aft y b) rs' Γ2)
def OutP {α : Type} (c : Ct α) (Ex : XEx) (N : Rv → List Sl → Prop) (y : α) (rs' : List Rv) (Γ2 : List Sl) : Prop := ∀ b, c.rel y b → muIx (c.aft y b) rs' = muIx (c.ar y) rs' ∧ OutB c Ex N y b rs' Γ2
theorem Im.pure {p : Prop} {r : Rv} {Γ : List Sl} {k : D → List Sl → Prop} (hk : ∀ d Γ', k d Γ' → p) (h : Im r Γ k) : p := by
  cases r with
  | d d => exact hk _ _ h
  | new d => exact hk _ _ h
  | bo d => exact h.elim
  | va v => exact h.elim
  | own i =>
    cases hs : Γ[i]? with
    | none => simp only [Im, hs] at h
    | some s => cases s <;> simp only [Im, hs] at h <;> exact hk _ _ h
theorem Frz.pure {p : Prop} : ∀ {as : List Ak} {rs : List Rv} {Γ : List Sl} {k : List Rv → List Sl → Prop}, (∀ rs' Γ', k rs' Γ' → p) → Frz as rs Γ k → p
  | [], [], _, _, hk, h => hk _ _ h
  | [], _ :: _, _, _, _, h => h.elim
  | .im _ :: _, [], _, _, _, h => h.elim
  | .bo _ :: _, [], _, _, _, h => h.elim
  | .mu _ :: _, [], _, _, _, h => h.elim
  | .im _ :: as, _ :: rs, _, _, hk, h => Im.pure (fun _ _ h' => Frz.pure (as := as) (rs := rs) (fun _ _ h'' => hk _ _ h'') h') h
  | .bo _ :: as, r :: rs, Γ, k, hk, h => Frz.pure (as := as) (rs := rs) (Γ := Γ) (k := fun rs' Γ2 => k (r :: rs') Γ2) (fun _ _ h'' => hk _ _ h'') h
  | .mu _ :: as, r :: rs, Γ, k, hk, h => Frz.pure (as := as) (rs := rs) (Γ := Γ) (k := fun rs' Γ2 => k (r :: rs') Γ2) (fun _ _ h'' => hk _ _ h'') h
theorem Im.map {r : Rv} {Γ : List Sl} {k k' : D → List Sl → Prop} (hk : ∀ d Γ', k d Γ' → k' d Γ') (h : Im r Γ k) : Im r Γ k' := h.imp hk
theorem Frz.map : ∀ {as : List Ak} {rs : List Rv} {Γ : List Sl} {k k' : List Rv → List Sl → Prop}, (∀ rs' Γ', k rs' Γ' → k' rs' Γ') → Frz as rs Γ k → Frz as rs Γ k'
  | [], [], _, _, _, hk, h => hk _ _ h
  | [], _ :: _, _, _, _, _, h => h.elim
  | .im _ :: _, [], _, _, _, _, h => h.elim
  | .bo _ :: _, [], _, _, _, _, h => h.elim
  | .mu _ :: _, [], _, _, _, _, h => h.elim
  | .im _ :: as, _ :: rs, _, _, _, hk, h => Im.map (fun _ _ h' => Frz.map (as := as) (rs := rs) (fun _ _ h'' => hk _ _ h'') h') h
  | .bo _ :: as, r :: rs, Γ, k, k', hk, h => Frz.map (as := as) (rs := rs) (Γ := Γ) (k := fun rs' Γ2 => k (r :: rs') Γ2) (k' := fun rs' Γ2 => k' (r :: rs') Γ2) (fun _ _ h'' => hk _ _ h'') h
  | .mu _ :: as, r :: rs, Γ, k, k', hk, h => Frz.map (as := as) (rs := rs) (Γ := Γ) (k := fun rs' Γ2 => k (r :: rs') Γ2) (k' := fun rs' Γ2 => k' (r :: rs') Γ2) (fun _ _ h'' => hk _ _ h'') h
theorem callPost_intro {α : Type} {c : Ct α} {Ex : XEx} {N : Rv → List Sl → Prop} {rs : List Rv} {Γ : List Sl} (y : α) (h : Frz (c.ar y) rs Γ fun rs' Γ2 => ArgsOK Γ2 (c.ar y) rs' ∧ dsj (c.ar y) rs' = true ∧ c.ok y ∧ OutP c Ex N y rs' Γ2) : CallPost c Ex N rs Γ :=
  ⟨y, Frz.pure (fun _ _ h' => h'.2.2.1) h, Frz.map (fun _ _ ⟨a, b, _, d⟩ => ⟨a, b, d⟩) h⟩
theorem getD_mapI {ns : List Int} {k : Nat} (h : k < ns.length) : (ns.map D.int).getD k .non = .int (ns.getD k 0) := by
  rw [List.getD_eq_getElem?_getD, List.getD_eq_getElem?_getD, List.getElem?_map, List.getElem?_eq_getElem h]; rfl
theorem gw_eq {X : L2.Cx} {Z : Zc} {Γ : List Sl} {tg : Expr} {d d' : D} {k : List Sl → Prop} (e : d = d') (h : GW X Z Γ tg d' k) : GW X Z Γ tg d k := by rw [e]; exact h
theorem gc_eq {X : L2.Cx} {Z : Zc} {Γ : List Sl} {tg : Expr} {d d' : D} {vs : List Nat} {k : List Sl → Prop} (e : d = d') (h : GC X Z Γ tg d' vs k) : GC X Z Γ tg d vs k := by rw [e]; exact h
/-- a walk over a list or a tuple -/
def Src1 (Γ : List Sl) (r : Rv) (ds : List D) : Prop := LstSrc Γ r ds ∨ TupSrc r ds
def iSeq (K : PySem.W.Frag) (tl : TE) : TI := fun σ H R => tl σ H fun x H1 => ∃ a, x = .ref a ∧ (((∃ xs, SqL K H1 a xs) ∧ R (Itl K a) H1) ∨ ((∃ xs, SqT K H1 a xs) ∧ R (Itt K a) H1))
theorem pi_seq {X : L2.Cx} {tg l : Expr} {tl : TE} (hl : PE X l tl) : PI X tg l (iSeq X.K tl) := by
  refine ⟨fun pins s σ H R I h => ?_⟩
  refine thn (hl.run pins s σ H _ I h) fun v s1 ⟨x, H1, I1, r1, q1⟩ => ?_
  obtain ⟨a, e, q1⟩ := q1
  subst e
  cases r1
  rcases q1 with ⟨⟨xs, hq⟩, q⟩ | ⟨⟨xs, hq⟩, q⟩
  · obtain ⟨its, rv, p, hz⟩ := I1.list hq
    refine wpAny_pyIter_list p.isList ?_
    refine ⟨s1.heap.objs.size, [s1.heap.objs.size], _, _, H1, rfl, I1.kept (t' := s1.toks) fun b o e => Heap.get?_push_of_some _ e, turn_list a _, ⟨_, Heap.get?_push_size _ rfl, rfl, rfl⟩, fun b hb => ?_, q⟩
    have e : b = s1.heap.objs.size := by simpa using hb
    subst e
    exact I1.fpOk (Nat.le_refl _) (I1.hok.fresh (Nat.le_refl _))
  · obtain ⟨its, rv, p, hz⟩ := I1.tuple hq
    refine wpAny_pyIter_tuple (show s1.heap.IsTuple a its.toArray from p) ?_
    refine ⟨s1.heap.objs.size, [s1.heap.objs.size], _, _, H1, rfl, I1.kept (t' := s1.toks) fun b o e => Heap.get?_push_of_some _ e, turn_tuple a _, ⟨_, Heap.get?_push_size _ rfl, rfl, rfl⟩, fun b hb => ?_, q⟩
    have e : b = s1.heap.objs.size := by simpa using hb
    subst e
    exact I1.fpOk (Nat.le_refl _) (I1.hok.fresh (Nat.le_refl _))
theorem iw_seq {X : L2.Cx} {Z : Zc} {Γ : List Sl} {tg e : Expr} {R : Src} (h : EW X Z Γ e fun r Γ1 => Fz r Γ1 fun r Γ1 => ∃ ds, Src1 Γ1 r ds ∧ R ds.length (fun k => ds.getD k .non) Γ1) : IW X Z Γ tg e R := by
  refine pi_imp (pi_seq h) fun σ H RR ⟨M, A, k⟩ => ?_
  refine ⟨M, A, fun r v Γ1 M1 H1 n1 A1 T1 q1 => ?_⟩
  obtain ⟨M2, r', A2, T2, q2, nn, ds, hs, n2⟩ := A1.fz' q1 n1
  rcases hs with hs | hs
  · obtain ⟨a, vs, ev, s, rr⟩ := lst_src A2 q2 hs
    refine ⟨a, ev, .inl ⟨⟨vs, SqL.of (Hd_ext _ _ s)⟩, k _ _ _ M2 H1 _ n2 A2 (T1.trans T2) fun j M Γ σ H A T => ⟨fun lt => ?_, fun le => ⟨vs, SqL.of (Hd_ext _ _ (T.b _ _ s)), by rw [rr.length]; exact le⟩⟩⟩⟩
    have sl : SqL X.K H a vs := SqL.of (Hd_ext _ _ (T.b _ _ s))
    have hj : j < vs.length := by rw [rr.length]; exact lt
    refine ⟨⟨vs, vs[j], sl, List.getElem?_eq_getElem hj⟩, fun x H' ⟨e, y⟩ => ?_⟩
    subst e
    exact ⟨Ext.refl _, Rep.mono T.s (item_of rr (y vs sl))⟩
  · obtain ⟨a, vs, ev, s, rr⟩ := tup_src A2 q2 hs
    refine ⟨a, ev, .inr ⟨⟨vs, Ext.t Hd_ext s⟩, k _ _ _ M2 H1 _ n2 A2 (T1.trans T2) fun j M Γ σ H A T => ⟨fun lt => ?_, fun le => ⟨vs, Ext.t Hd_ext (Ext.t T.b s), by rw [rr.length]; exact le⟩⟩⟩⟩
    have sl : SqT X.K H a vs := Ext.t Hd_ext (Ext.t T.b s)
    have hj : j < vs.length := by rw [rr.length]; exact lt
    refine ⟨⟨vs, vs[j], sl, List.getElem?_eq_getElem hj⟩, fun x H' ⟨e, y⟩ => ?_⟩
    subst e
    exact ⟨Ext.refl _, Rep.mono T.s (item_of rr (y vs sl))⟩
/-! slots may be forgotten -/
def Fgt : List Sl → List Sl → Prop
  | [], [] => True
  | s :: Γ, t :: Γ' => (t = .un ∨ s = t) ∧ Fgt Γ Γ'
  | _, _ => False
theorem fgt_nil : Fgt [] [] := True.intro
theorem fgt_un {s : Sl} {Γ Γ' : List Sl} (h : Fgt Γ Γ') : Fgt (s :: Γ) (.un :: Γ') := ⟨.inl rfl, h⟩
theorem fgt_eq {s t : Sl} {Γ Γ' : List Sl} (e : s = t) (h : Fgt Γ Γ') : Fgt (s :: Γ) (t :: Γ') := ⟨.inr e, h⟩
theorem Fgt.len : ∀ {Γ Γ' : List Sl}, Fgt Γ Γ' → Γ.length = Γ'.length
  | [], [], _ => rfl
  | _ :: _, _ :: _, ⟨_, h⟩ => by rw [List.length_cons, List.length_cons, Fgt.len h]
  | [], _ :: _, h => h.elim
  | _ :: _, [], h => h.elim
theorem Fgt.get : ∀ {Γ Γ' : List Sl} {i : Nat} {t : Sl}, Fgt Γ Γ' → Γ'[i]? = some t → ∃ s, Γ[i]? = some s ∧ (t = .un ∨ s = t)
  | [], [], _, _, _, h => by simp at h
  | s :: _, t :: _, 0, u, ⟨h1, _⟩, h => by
    simp at h; subst h
    exact ⟨s, rfl, h1⟩
  | _ :: _, _ :: _, i + 1, u, ⟨_, h⟩, g => Fgt.get (i := i) h (by simpa using g)
  | [], _ :: _, _, _, h, _ => h.elim
  | _ :: _, [], _, _, h, _ => h.elim
theorem As.fgt {K : PySem.W.Frag} {Z : Zc} {M : Addr → Prop} {Γ Γ' : List Sl} {σ : L2.St} {H : Hp} (A : As K Z M Γ σ H) (f : Fgt Γ Γ') : As K Z M Γ' σ H := by
  have own : ∀ {j a}, OwnAt Γ' σ j a → OwnAt Γ σ j a := fun {j a} ⟨t, x1, x2, x3⟩ => by
    obtain ⟨s, h1, h2⟩ := f.get x1
    rcases h2 with h2 | h2
    · subst h2; cases x2
    · subst h2; exact ⟨s, h1, x2, x3⟩
  refine ⟨A.len.trans f.len, fun j t ov h1 h2 => ?_, fun j k a h1 h2 => A.dis j k a (own h1) (own h2), A.fr, A.m0, A.mf, A.ml⟩
  obtain ⟨s, g1, g2⟩ := f.get h1
  rcases g2 with e | e
  · subst e; trivial
  · subst e; exact A.rel j s ov g1 h2
def FI (I : Nat → List Sl → Prop) (k : Nat) (Γ : List Sl) : Prop := ∃ Γ3, I k Γ3 ∧ Fgt Γ Γ3
section
variable {X : L2.Cx} {Z : Zc} {Γ : List Sl} {P : Po} {pos : Pos}
abbrev ForFK (X : L2.Cx) (Z : Zc) (tg : Expr) (body : List Stmt) (P : Po) (I : Nat → List Sl → Prop) (n : Nat) (item : Nat → D) : Prop :=
  ∀ k Γ', k < n → I k Γ' → GW X Z Γ' tg (item k) fun Γ2 => SS X Z Γ2 body ⟨FI I (k + 1), P.rt, P.nx, FI I (k + 1)⟩
theorem sw_forF {tg iter : Expr} {body : List Stmt} (hp : PassesOwn (model X.prog X.w) X.A X.env X.xe) (hc : X.calm = true)
    (h : IW X Z Γ tg iter fun n item Γ1 => ∃ I : Nat → List Sl → Prop, FI I 0 Γ1 ∧ ForFK X Z tg body P I n item ∧ ∀ Γ', I n Γ' → P.nx Γ')
    (hs : ∀ x, foldedSetIterable iter X.env x = pure x := by intro _; rfl) : SW X Z Γ (.For tg iter body [] pos) P := by
  have hg : PG X tg (fun v σ H Q => ∃ y : D × List Sl × (List Sl → Prop), GW X Z y.2.1 tg y.1 y.2.2 ∧ tgOf X.K Z y.2.1 y.1 y.2.2 v σ H Q) := pg_ex fun _ hi => hi
  have hb : PSs X body (fun D σ H => ∃ y : List Sl × Po, SS X Z y.1 body y.2 ∧ tsOf X.K Z y.1 y.2 D σ H) := pss_ex fun _ hi => hi
  refine ps_imp (ps_for hp hc h hg hb hs) fun D σ H ⟨M, A, k1, k2, k3, k4⟩ => ?_
  refine ⟨M, A, fun n item Γ1 M1 H1 J ⟨I, ⟨Γ0, i0, f0⟩, turn, fin⟩ A1 T1 wk => ?_⟩
  refine ⟨fun i m σ H => m = n - i ∧ i ≤ n ∧ ∃ Γ M, I i Γ ∧ As X.K Z M Γ σ H ∧ Tr Z M1 H1 M H, ⟨n, rfl, Nat.zero_le _, Γ0, M1, i0, A1.fgt f0, Tr.refl _ _ _⟩, ?_⟩
  rintro i m σ2 H2 ⟨rfl, hi, Γ2, M2, ii, A2, T2⟩
  obtain ⟨w1, w2⟩ := wk i M2 Γ2 σ2 H2 A2 T2
  by_cases lt : i < n
  · obtain ⟨go, item_⟩ := w1 lt
    refine .inr ⟨go, fun σ H => ∃ Γ M, I (i + 1) Γ ∧ As X.K Z M Γ σ H ∧ Tr Z M1 H1 M H, fun σ' H' ⟨Γ3, M3, ii, A3, T3⟩ => ⟨n - (i + 1), by omega, rfl, lt, Γ3, M3, ii, A3, T3⟩, fun x H' y => ?_⟩
    obtain ⟨eh, rx⟩ := item_ x H' y
    obtain ⟨A3, T3⟩ := A2.grow eh
    refine ⟨(item i, Γ2, _), turn i Γ2 lt ii, M2, A3, rx, fun Γ4 M4 σ4 H4 ss A4 T4 => ?_⟩
    refine ⟨(Γ4, ⟨FI I (i + 1), P.rt, P.nx, FI I (i + 1)⟩), ss, M4, A4, fun Γ5 M5 σ5 H5 ⟨Γ6, n5, f5⟩ A5 T5 => ⟨Γ6, M5, n5, A5.fgt f5, ((T2.trans T3).trans T4).trans T5⟩, k2, fun Γ5 M5 σ5 H5 n5 A5 T5 => ?_, fun Γ5 M5 σ5 H5 ⟨Γ6, n5, f5⟩ A5 T5 => ⟨Γ6, M5, n5, A5.fgt f5, ((T2.trans T3).trans T4).trans T5⟩⟩
    exact k1 _ _ _ _ n5 A5 ((((T1.trans T2).trans T3).trans T4).trans T5)
  · have e : i = n := by omega
    subst e
    exact .inl ⟨w2 (Nat.le_refl _), k1 _ _ _ _ (fin Γ2 ii) A2 (T1.trans T2)⟩
end

theorem bb_len : bootBuiltins "len" = some (.builtin "len") := by decide +kernel
theorem bb_abs : bootBuiltins "abs" = some (.builtin "abs") := by decide +kernel
theorem bb_max : bootBuiltins "max" = some (.builtin "max") := by decide +kernel
theorem bb_min : bootBuiltins "min" = some (.builtin "min") := by decide +kernel
theorem bb_sorted : bootBuiltins "sorted" = some (.builtin "sorted") := by decide +kernel
theorem bb_isinstance : bootBuiltins "isinstance" = some (.builtin "isinstance") := by decide +kernel
theorem bb_iter : bootBuiltins "iter" = some (.builtin "iter") := by decide +kernel
theorem bb_sum : bootBuiltins "sum" = some (.builtin "sum") := by decide +kernel
theorem bb_any : bootBuiltins "any" = some (.builtin "any") := by decide +kernel
theorem bb_all : bootBuiltins "all" = some (.builtin "all") := by decide +kernel
theorem bb_int : bootBuiltins "int" = some (.type "int") := by decide +kernel
theorem bb_list : bootBuiltins "list" = some (.type "list") := by decide +kernel
theorem bb_tuple : bootBuiltins "tuple" = some (.type "tuple") := by decide +kernel
theorem bb_bool : bootBuiltins "bool" = some (.type "bool") := by decide +kernel
theorem bb_str : bootBuiltins "str" = some (.type "str") := by decide +kernel
theorem bb_dict : bootBuiltins "dict" = some (.type "dict") := by decide +kernel
theorem bb_set : bootBuiltins "set" = some (.type "set") := by decide +kernel
theorem bb_ValueError : bootBuiltins "ValueError" = some (.type "ValueError") := by decide +kernel
def Blt (mg : Str → Option Value) (l : List Str) : Prop := ∀ x ∈ l, mg x = none
theorem Blt.get {mg : Str → Option Value} {l : List Str} {x : Str} (h : Blt mg l) (m : l.contains x = true) : mg x = none := h x (by simpa using m)
theorem outP_eq {α : Type} {c : Ct α} {Ex : XEx} {N : Rv → List Sl → Prop} {y : α} {b : c.β} {rs' : List Rv} {Γ2 : List Sl} {o : Ou} (e : c.out y b = o) (h : match (motive := Ou → Prop) o with
  | .ret z => N z.rv (updA (c.aft y b) rs' Γ2)
  | .exc C fs => Ex C fs (updA (c.aft y b) rs' Γ2)) : OutB c Ex N y b rs' Γ2 := by
  unfold OutB; rw [e]; exact h
theorem retOK_eq {aft : List Ak} {o o' : Ou} {r : Rv} {Γ : List Sl} (e : o = o') (h : RetOK aft o' r Γ) : RetOK aft o r Γ := by rw [e]; exact h
section
variable {X : L2.Cx} {Γ : List Sl} {Ex : XEx} {N : Rv → List Sl → Prop} {rs : List Rv}
abbrev CPost {α : Type} (c : Ct α) (Ex : XEx) (N : Rv → List Sl → Prop) (rs : List Rv) (Γ : List Sl) (y : α) : Prop :=
  Frz (c.ar y) rs Γ fun rs' Γ2 => ArgsOK Γ2 (c.ar y) rs' ∧ dsj (c.ar y) rs' = true ∧ c.ok y ∧ OutP c Ex N y rs' Γ2
theorem callPost_1 {T1 : Type} {c : Ct (T1)} {a1 : T1} (h : CPost c Ex N rs Γ a1) : CallPost c Ex N rs Γ := callPost_intro _ h
theorem callPost_2 {T1 T2 : Type} {c : Ct (T1 × T2)} {a1 : T1} {a2 : T2} (h : CPost c Ex N rs Γ (a1, a2)) : CallPost c Ex N rs Γ := callPost_intro _ h
theorem callPost_3 {T1 T2 T3 : Type} {c : Ct (T1 × T2 × T3)} {a1 : T1} {a2 : T2} {a3 : T3} (h : CPost c Ex N rs Γ (a1, a2, a3)) : CallPost c Ex N rs Γ := callPost_intro _ h
theorem callPost_4 {T1 T2 T3 T4 : Type} {c : Ct (T1 × T2 × T3 × T4)} {a1 : T1} {a2 : T2} {a3 : T3} {a4 : T4} (h : CPost c Ex N rs Γ (a1, a2, a3, a4)) : CallPost c Ex N rs Γ := callPost_intro _ h
theorem callPost_5 {T1 T2 T3 T4 T5 : Type} {c : Ct (T1 × T2 × T3 × T4 × T5)} {a1 : T1} {a2 : T2} {a3 : T3} {a4 : T4} {a5 : T5} (h : CPost c Ex N rs Γ (a1, a2, a3, a4, a5)) : CallPost c Ex N rs Γ := callPost_intro _ h
theorem callPost_6 {T1 T2 T3 T4 T5 T6 : Type} {c : Ct (T1 × T2 × T3 × T4 × T5 × T6)} {a1 : T1} {a2 : T2} {a3 : T3} {a4 : T4} {a5 : T5} {a6 : T6} (h : CPost c Ex N rs Γ (a1, a2, a3, a4, a5, a6)) : CallPost c Ex N rs Γ := callPost_intro _ h
theorem callPost_7 {T1 T2 T3 T4 T5 T6 T7 : Type} {c : Ct (T1 × T2 × T3 × T4 × T5 × T6 × T7)} {a1 : T1} {a2 : T2} {a3 : T3} {a4 : T4} {a5 : T5} {a6 : T6} {a7 : T7} (h : CPost c Ex N rs Γ (a1, a2, a3, a4, a5, a6, a7)) : CallPost c Ex N rs Γ := callPost_intro _ h
theorem callPost_8 {T1 T2 T3 T4 T5 T6 T7 T8 : Type} {c : Ct (T1 × T2 × T3 × T4 × T5 × T6 × T7 × T8)} {a1 : T1} {a2 : T2} {a3 : T3} {a4 : T4} {a5 : T5} {a6 : T6} {a7 : T7} {a8 : T8} (h : CPost c Ex N rs Γ (a1, a2, a3, a4, a5, a6, a7, a8)) : CallPost c Ex N rs Γ := callPost_intro _ h
theorem callPost_9 {T1 T2 T3 T4 T5 T6 T7 T8 T9 : Type} {c : Ct (T1 × T2 × T3 × T4 × T5 × T6 × T7 × T8 × T9)} {a1 : T1} {a2 : T2} {a3 : T3} {a4 : T4} {a5 : T5} {a6 : T6} {a7 : T7} {a8 : T8} {a9 : T9} (h : CPost c Ex N rs Γ (a1, a2, a3, a4, a5, a6, a7, a8, a9)) : CallPost c Ex N rs Γ := callPost_intro _ h
theorem callPost_10 {T1 T2 T3 T4 T5 T6 T7 T8 T9 T10 : Type} {c : Ct (T1 × T2 × T3 × T4 × T5 × T6 × T7 × T8 × T9 × T10)} {a1 : T1} {a2 : T2} {a3 : T3} {a4 : T4} {a5 : T5} {a6 : T6} {a7 : T7} {a8 : T8} {a9 : T9} {a10 : T10} (h : CPost c Ex N rs Γ (a1, a2, a3, a4, a5, a6, a7, a8, a9, a10)) : CallPost c Ex N rs Γ := callPost_intro _ h
theorem callPost_11 {T1 T2 T3 T4 T5 T6 T7 T8 T9 T10 T11 : Type} {c : Ct (T1 × T2 × T3 × T4 × T5 × T6 × T7 × T8 × T9 × T10 × T11)} {a1 : T1} {a2 : T2} {a3 : T3} {a4 : T4} {a5 : T5} {a6 : T6} {a7 : T7} {a8 : T8} {a9 : T9} {a10 : T10} {a11 : T11} (h : CPost c Ex N rs Γ (a1, a2, a3, a4, a5, a6, a7, a8, a9, a10, a11)) : CallPost c Ex N rs Γ := callPost_intro _ h
theorem callPost_12 {T1 T2 T3 T4 T5 T6 T7 T8 T9 T10 T11 T12 : Type} {c : Ct (T1 × T2 × T3 × T4 × T5 × T6 × T7 × T8 × T9 × T10 × T11 × T12)} {a1 : T1} {a2 : T2} {a3 : T3} {a4 : T4} {a5 : T5} {a6 : T6} {a7 : T7} {a8 : T8} {a9 : T9} {a10 : T10} {a11 : T11} {a12 : T12} (h : CPost c Ex N rs Γ (a1, a2, a3, a4, a5, a6, a7, a8, a9, a10, a11, a12)) : CallPost c Ex N rs Γ := callPost_intro _ h
end
theorem for_intro {p q r : (Nat → List Sl → Prop) → Prop} (I : Nat → List Sl → Prop) (h0 : p I) (h1 : q I) (h2 : r I) : ∃ I, p I ∧ q I ∧ r I := ⟨I, h0, h1, h2⟩
theorem lc_intro {p q r : (Nat → List D → List Sl → Prop) → Prop} (I : Nat → List D → List Sl → Prop) (h0 : p I) (h1 : q I) (h2 : r I) : ∃ I, p I ∧ q I ∧ r I := ⟨I, h0, h1, h2⟩
theorem putD_len {f : Str} {d : D} : ∀ {gs : List (Str × D)}, (putD f d gs).length ≤ gs.length + 1
  | [] => Nat.le_refl _
  | (g, e) :: t => by
    unfold putD
    split
    · simp
    · simpa using putD_len (gs := t)
theorem putD_lt {f : Str} {d : D} {gs : List (Str × D)} {n : Nat} (h : gs.length + 1 < n) : (putD f d gs).length < n := Nat.lt_of_le_of_lt putD_len h
section
variable {Γ : List Sl} {Ex : XEx} {N : Rv → List Sl → Prop} {rs : List Rv} {C : Addr}
def MkEx (Ex : XEx) : XEx := fun D fs Γ => Γ ≠ [] ∧ Ex D fs Γ.dropLast
def MkN (C : Addr) (N : Rv → List Sl → Prop) : Rv → List Sl → Prop := fun r Γ => r = .d .non ∧ ∃ gs, Γ.getLast? = some (.ow (.obj C gs)) ∧ N (.d (.obj C gs)) Γ.dropLast
theorem outP_imp {α : Type} {c : Ct α} {Ex Ex' : XEx} {N N' : Rv → List Sl → Prop} {y : α} {rs' : List Rv} {Γ2 : List Sl} (hE : ∀ C fs Γ, Ex C fs Γ → Ex' C fs Γ) (hN : ∀ r Γ, N r Γ → N' r Γ) (h : OutP c Ex N y rs' Γ2) : OutP c Ex' N' y rs' Γ2 := by
  intro b hb
  obtain ⟨h0, h⟩ := h b hb
  refine ⟨h0, ?_⟩
  unfold OutB at h ⊢
  cases e : c.out y b with
  | ret z => rw [e] at h; exact hN _ _ h
  | exc C fs => rw [e] at h; exact hE _ _ _ h
theorem last_app {Γ : List Sl} {s : Sl} (h : Γ.getLast? = some s) : Γ = Γ.dropLast ++ [s] := by
  have hne : Γ ≠ [] := by intro e; subst e; cases h
  have := List.dropLast_concat_getLast (l := Γ) hne
  rw [List.getLast?_eq_some_getLast hne] at h
  rw [← Option.some.inj h]; exact this.symm
abbrev MPost {α : Type} (c : Ct α) (C : Addr) (Ex : XEx) (N : Rv → List Sl → Prop) (rs : List Rv) (Γ : List Sl) (y : α) : Prop :=
  CPost c (MkEx Ex) (MkN C N) (.own Γ.length :: rs) (Γ ++ [.ow (.obj C [])]) y
theorem makePost_intro {α : Type} {c : Ct α} (y : α) (h : MPost c C Ex N rs Γ y) : MakePost c C Ex N rs Γ := by
  refine callPost_intro y (Frz.map (fun rs' Γ2 ⟨a, b, d, o⟩ => ⟨a, b, d, outP_imp ?_ ?_ o⟩) h)
  · rintro D fs Γ ⟨h1, h2⟩
    exact ⟨Γ.dropLast, Γ.getLast h1, (List.dropLast_concat_getLast h1).symm, h2⟩
  · rintro r Γ ⟨h1, gs, h2, h3⟩
    exact ⟨h1, Γ.dropLast, gs, last_app h2, h3⟩
theorem makePost_1 {T1 : Type} {c : Ct (T1)} {a1 : T1} (h : MPost c C Ex N rs Γ a1) : MakePost c C Ex N rs Γ := makePost_intro _ h
theorem makePost_2 {T1 T2 : Type} {c : Ct (T1 × T2)} {a1 : T1} {a2 : T2} (h : MPost c C Ex N rs Γ (a1, a2)) : MakePost c C Ex N rs Γ := makePost_intro _ h
theorem makePost_3 {T1 T2 T3 : Type} {c : Ct (T1 × T2 × T3)} {a1 : T1} {a2 : T2} {a3 : T3} (h : MPost c C Ex N rs Γ (a1, a2, a3)) : MakePost c C Ex N rs Γ := makePost_intro _ h
theorem makePost_4 {T1 T2 T3 T4 : Type} {c : Ct (T1 × T2 × T3 × T4)} {a1 : T1} {a2 : T2} {a3 : T3} {a4 : T4} (h : MPost c C Ex N rs Γ (a1, a2, a3, a4)) : MakePost c C Ex N rs Γ := makePost_intro _ h
theorem makePost_5 {T1 T2 T3 T4 T5 : Type} {c : Ct (T1 × T2 × T3 × T4 × T5)} {a1 : T1} {a2 : T2} {a3 : T3} {a4 : T4} {a5 : T5} (h : MPost c C Ex N rs Γ (a1, a2, a3, a4, a5)) : MakePost c C Ex N rs Γ := makePost_intro _ h
theorem makePost_6 {T1 T2 T3 T4 T5 T6 : Type} {c : Ct (T1 × T2 × T3 × T4 × T5 × T6)} {a1 : T1} {a2 : T2} {a3 : T3} {a4 : T4} {a5 : T5} {a6 : T6} (h : MPost c C Ex N rs Γ (a1, a2, a3, a4, a5, a6)) : MakePost c C Ex N rs Γ := makePost_intro _ h
theorem makePost_7 {T1 T2 T3 T4 T5 T6 T7 : Type} {c : Ct (T1 × T2 × T3 × T4 × T5 × T6 × T7)} {a1 : T1} {a2 : T2} {a3 : T3} {a4 : T4} {a5 : T5} {a6 : T6} {a7 : T7} (h : MPost c C Ex N rs Γ (a1, a2, a3, a4, a5, a6, a7)) : MakePost c C Ex N rs Γ := makePost_intro _ h
theorem makePost_8 {T1 T2 T3 T4 T5 T6 T7 T8 : Type} {c : Ct (T1 × T2 × T3 × T4 × T5 × T6 × T7 × T8)} {a1 : T1} {a2 : T2} {a3 : T3} {a4 : T4} {a5 : T5} {a6 : T6} {a7 : T7} {a8 : T8} (h : MPost c C Ex N rs Γ (a1, a2, a3, a4, a5, a6, a7, a8)) : MakePost c C Ex N rs Γ := makePost_intro _ h
theorem makePost_9 {T1 T2 T3 T4 T5 T6 T7 T8 T9 : Type} {c : Ct (T1 × T2 × T3 × T4 × T5 × T6 × T7 × T8 × T9)} {a1 : T1} {a2 : T2} {a3 : T3} {a4 : T4} {a5 : T5} {a6 : T6} {a7 : T7} {a8 : T8} {a9 : T9} (h : MPost c C Ex N rs Γ (a1, a2, a3, a4, a5, a6, a7, a8, a9)) : MakePost c C Ex N rs Γ := makePost_intro _ h
theorem makePost_10 {T1 T2 T3 T4 T5 T6 T7 T8 T9 T10 : Type} {c : Ct (T1 × T2 × T3 × T4 × T5 × T6 × T7 × T8 × T9 × T10)} {a1 : T1} {a2 : T2} {a3 : T3} {a4 : T4} {a5 : T5} {a6 : T6} {a7 : T7} {a8 : T8} {a9 : T9} {a10 : T10} (h : MPost c C Ex N rs Γ (a1, a2, a3, a4, a5, a6, a7, a8, a9, a10)) : MakePost c C Ex N rs Γ := makePost_intro _ h
theorem makePost_11 {T1 T2 T3 T4 T5 T6 T7 T8 T9 T10 T11 : Type} {c : Ct (T1 × T2 × T3 × T4 × T5 × T6 × T7 × T8 × T9 × T10 × T11)} {a1 : T1} {a2 : T2} {a3 : T3} {a4 : T4} {a5 : T5} {a6 : T6} {a7 : T7} {a8 : T8} {a9 : T9} {a10 : T10} {a11 : T11} (h : MPost c C Ex N rs Γ (a1, a2, a3, a4, a5, a6, a7, a8, a9, a10, a11)) : MakePost c C Ex N rs Γ := makePost_intro _ h
theorem makePost_12 {T1 T2 T3 T4 T5 T6 T7 T8 T9 T10 T11 T12 : Type} {c : Ct (T1 × T2 × T3 × T4 × T5 × T6 × T7 × T8 × T9 × T10 × T11 × T12)} {a1 : T1} {a2 : T2} {a3 : T3} {a4 : T4} {a5 : T5} {a6 : T6} {a7 : T7} {a8 : T8} {a9 : T9} {a10 : T10} {a11 : T11} {a12 : T12} (h : MPost c C Ex N rs Γ (a1, a2, a3, a4, a5, a6, a7, a8, a9, a10, a11, a12)) : MakePost c C Ex N rs Γ := makePost_intro _ h
end
/-! an existence over tuples -/
theorem ex_2 {T1 T2 : Type} {p : T1 × T2 → Prop} {a1 : T1} {a2 : T2} (h : p (a1, a2)) : ∃ b, p b := ⟨_, h⟩
theorem ex_3 {T1 T2 T3 : Type} {p : T1 × T2 × T3 → Prop} {a1 : T1} {a2 : T2} {a3 : T3} (h : p (a1, a2, a3)) : ∃ b, p b := ⟨_, h⟩
theorem ex_4 {T1 T2 T3 T4 : Type} {p : T1 × T2 × T3 × T4 → Prop} {a1 : T1} {a2 : T2} {a3 : T3} {a4 : T4} (h : p (a1, a2, a3, a4)) : ∃ b, p b := ⟨_, h⟩
theorem ex_5 {T1 T2 T3 T4 T5 : Type} {p : T1 × T2 × T3 × T4 × T5 → Prop} {a1 : T1} {a2 : T2} {a3 : T3} {a4 : T4} {a5 : T5} (h : p (a1, a2, a3, a4, a5)) : ∃ b, p b := ⟨_, h⟩
theorem ex_6 {T1 T2 T3 T4 T5 T6 : Type} {p : T1 × T2 × T3 × T4 × T5 × T6 → Prop} {a1 : T1} {a2 : T2} {a3 : T3} {a4 : T4} {a5 : T5} {a6 : T6} (h : p (a1, a2, a3, a4, a5, a6)) : ∃ b, p b := ⟨_, h⟩
theorem ex_7 {T1 T2 T3 T4 T5 T6 T7 : Type} {p : T1 × T2 × T3 × T4 × T5 × T6 × T7 → Prop} {a1 : T1} {a2 : T2} {a3 : T3} {a4 : T4} {a5 : T5} {a6 : T6} {a7 : T7} (h : p (a1, a2, a3, a4, a5, a6, a7)) : ∃ b, p b := ⟨_, h⟩
theorem ex_8 {T1 T2 T3 T4 T5 T6 T7 T8 : Type} {p : T1 × T2 × T3 × T4 × T5 × T6 × T7 × T8 → Prop} {a1 : T1} {a2 : T2} {a3 : T3} {a4 : T4} {a5 : T5} {a6 : T6} {a7 : T7} {a8 : T8} (h : p (a1, a2, a3, a4, a5, a6, a7, a8)) : ∃ b, p b := ⟨_, h⟩
theorem ex_9 {T1 T2 T3 T4 T5 T6 T7 T8 T9 : Type} {p : T1 × T2 × T3 × T4 × T5 × T6 × T7 × T8 × T9 → Prop} {a1 : T1} {a2 : T2} {a3 : T3} {a4 : T4} {a5 : T5} {a6 : T6} {a7 : T7} {a8 : T8} {a9 : T9} (h : p (a1, a2, a3, a4, a5, a6, a7, a8, a9)) : ∃ b, p b := ⟨_, h⟩
theorem ex_10 {T1 T2 T3 T4 T5 T6 T7 T8 T9 T10 : Type} {p : T1 × T2 × T3 × T4 × T5 × T6 × T7 × T8 × T9 × T10 → Prop} {a1 : T1} {a2 : T2} {a3 : T3} {a4 : T4} {a5 : T5} {a6 : T6} {a7 : T7} {a8 : T8} {a9 : T9} {a10 : T10} (h : p (a1, a2, a3, a4, a5, a6, a7, a8, a9, a10)) : ∃ b, p b := ⟨_, h⟩
theorem ex_11 {T1 T2 T3 T4 T5 T6 T7 T8 T9 T10 T11 : Type} {p : T1 × T2 × T3 × T4 × T5 × T6 × T7 × T8 × T9 × T10 × T11 → Prop} {a1 : T1} {a2 : T2} {a3 : T3} {a4 : T4} {a5 : T5} {a6 : T6} {a7 : T7} {a8 : T8} {a9 : T9} {a10 : T10} {a11 : T11} (h : p (a1, a2, a3, a4, a5, a6, a7, a8, a9, a10, a11)) : ∃ b, p b := ⟨_, h⟩
theorem ex_12 {T1 T2 T3 T4 T5 T6 T7 T8 T9 T10 T11 T12 : Type} {p : T1 × T2 × T3 × T4 × T5 × T6 × T7 × T8 × T9 × T10 × T11 × T12 → Prop} {a1 : T1} {a2 : T2} {a3 : T3} {a4 : T4} {a5 : T5} {a6 : T6} {a7 : T7} {a8 : T8} {a9 : T9} {a10 : T10} {a11 : T11} {a12 : T12} (h : p (a1, a2, a3, a4, a5, a6, a7, a8, a9, a10, a11, a12)) : ∃ b, p b := ⟨_, h⟩
/-! ### a call with one new object among its arguments, which the def may change -/
section
variable {X : L2.Cx} {Z : Zc} {Γ : List Sl} {N : Rv → List Sl → Prop} {e : Expr} {es : List Expr} {pos p : Pos} {x : Str} {k : Nat} {α : Type} {c : Ct α} {Ex : XEx}
/-- names alone: what stands in the slots -/
def tIxs (ix : List Nat) : TA := fun σ H Q => ∃ vs : List V, vs.map (fun v => some (some v)) = ix.map (fun i => σ[i]?) ∧ Q vs H
theorem ap_nil : PA X [] (tIxs []) := pa_imp pa_nil fun σ H Q ⟨vs, h, q⟩ => by
  cases vs with
  | nil => exact q
  | cons _ _ => cases h
theorem ap_cons {i : Nat} {y : Str} {ix : List Nat} (hN : X.N[i]? = some y) (hv : Vis X.env.scope y) (h : PA X es (tIxs ix)) (hd : (y == ("__debug__" : Str)) = false := by decide) (hcd : (y == ("__classdict__" : Str)) = false := by decide)
    (hs : starEach (.Name y pos :: es) X.env = (false, eval (.Name y pos) X.env) :: starEach es X.env := by rfl) : PA X (.Name y pos :: es) (tIxs (i :: ix)) :=
  pa_imp (pa_cons (pe_var hN hv hd hcd) h hs) fun σ H Q ⟨vs, h, q⟩ => by
    cases vs with
    | nil => cases h
    | cons v vs =>
      simp only [List.map_cons, List.cons.injEq] at h
      exact ⟨v, h.1.symm, vs, h.2, q⟩
def Sl.has : Sl → Prop
  | .un => False
  | _ => True
def slRv (Γ : List Sl) (i : Nat) : Rv := rvOf i (Γ.getD i .un)
def known (Γ : List Sl) (ix : List Nat) : Prop := ∀ i ∈ ix, ∃ s, Γ[i]? = some s ∧ s.has
theorem known_nil : known Γ [] := fun _ h => nomatch h
theorem known_cons {i : Nat} {ix : List Nat} {s : Sl} (h : Γ[i]? = some s) (hs : s.has) (t : known Γ ix) : known Γ (i :: ix) := fun j hj => by
  rcases List.mem_cons.mp hj with e | hj
  · subst e; exact ⟨s, h, hs⟩
  · exact t j hj
theorem rvOf_rel {K : PySem.W.Frag} {M : Addr → Prop} {σ : L2.St} {H : Hp} (A : As K Z M Γ σ H) {i : Nat} {s : Sl} {v : V} (hs : Γ[i]? = some s) (hu : s.has) (hv : σ[i]? = some (some v)) : RvRel K Z M Γ σ H v (rvOf i s) := by
  have q := A.rel i s _ hs hv
  cases s with
  | un => exact hu.elim
  | va u => exact Option.some.inj q
  | im d => obtain ⟨w, e, r⟩ := q; cases e; exact r
  | bo d => obtain ⟨w, e, r⟩ := q; cases e; exact r
  | ow d => exact hv
  | pw _ d => exact hv
theorem known_val {K : PySem.W.Frag} {M : Addr → Prop} {σ : L2.St} {H : Hp} (A : As K Z M Γ σ H) {i : Nat} {s : Sl} (hs : Γ[i]? = some s) (hu : s.has) : ∃ v, σ[i]? = some (some v) := by
  have hl : i < σ.length := by
    rw [A.len]
    rcases Nat.lt_or_ge i Γ.length with q | q
    · exact q
    · rw [List.getElem?_eq_none (by simpa using q)] at hs; cases hs
  have hσ := List.getElem?_eq_getElem hl
  have q := A.rel i s _ hs hσ
  cases s with
  | un => exact hu.elim
  | va u => exact ⟨u, by rw [hσ]; exact congrArg some q⟩
  | im d => obtain ⟨w, e, r⟩ := q; exact ⟨w, by rw [hσ, e]⟩
  | bo d => obtain ⟨w, e, r⟩ := q; exact ⟨w, by rw [hσ, e]⟩
  | ow d => obtain ⟨a, o, e, _⟩ := q; exact ⟨_, by rw [hσ, e]⟩
  | pw _ d => obtain ⟨a, o, e, _⟩ := q; exact ⟨_, by rw [hσ, e]⟩
theorem known_vals {K : PySem.W.Frag} {M : Addr → Prop} {σ : L2.St} {H : Hp} (A : As K Z M Γ σ H) : ∀ {ix : List Nat}, known Γ ix → ∃ vs : List V, vs.map (fun v => some (some v)) = ix.map (fun i => σ[i]?) ∧ RvsRel K Z M Γ σ H vs (ix.map (slRv Γ))
  | [], _ => ⟨[], rfl, .nil⟩
  | i :: ix, h => by
    obtain ⟨s, h1, h2⟩ := h i List.mem_cons_self
    obtain ⟨v, hv⟩ := known_val A h1 h2
    obtain ⟨vs, e, r⟩ := known_vals A (ix := ix) fun j hj => h j (List.mem_cons_of_mem _ hj)
    refine ⟨v :: vs, by simp [e, hv], .cons ?_ r⟩
    unfold slRv
    rw [List.getD_eq_getElem?_getD, h1]
    exact rvOf_rel A h1 h2 hv
theorem slRv_new {i : Nat} {d : D} : slRv Γ i ≠ .new d := by
  unfold slRv rvOf
  split <;> simp
/-- arguments, of which one is a new object: it stands in a slot of its own behind the others -/
def tatOf (K : PySem.W.Frag) (Z : Zc) (Γ : List Sl) (N : List Rv → D → List Sl → Prop) : TA := fun σ H Q => ∃ M, As K Z M Γ σ H ∧
  ∀ rs vs d a Γ' M' H', N rs d Γ' → (∀ r ∈ rs, ∀ d, r ≠ Rv.new d) → As K Z M' Γ' σ H' → As K Z M' (Γ' ++ [.ow d]) (σ ++ [some (.ref a)]) H' → Tr Z M H M' H' → RvsRel K Z M' (Γ' ++ [.ow d]) (σ ++ [some (.ref a)]) H' vs rs → Q vs H'
abbrev AT (X : L2.Cx) (Z : Zc) (Γ : List Sl) (es : List Expr) (N : List Rv → D → List Sl → Prop) : Prop := PA X es (tatOf X.K Z Γ N)
theorem at_here {ix : List Nat} {NT : List Rv → D → List Sl → Prop} (h : EW X Z Γ e fun r Γ1 => ∃ d, r = .new d ∧ known Γ1 ix ∧ NT (.own Γ1.length :: ix.map (slRv Γ1)) d Γ1) (hp : PA X es (tIxs ix))
    (hs : starEach (e :: es) X.env = (false, eval e X.env) :: starEach es X.env := by rfl) : AT X Z Γ (e :: es) NT := by
  refine pa_imp (pa_cons h hp hs) fun σ H Q ⟨M, A, k⟩ => ?_
  refine ⟨M, A, fun r v Γ1 M1 H1 n1 A1 T1 q1 => ?_⟩
  obtain ⟨d, er, kn, n⟩ := n1
  subst er
  obtain ⟨vs, e1, r1⟩ := known_vals A1 kn
  refine ⟨vs, e1, ?_⟩
  obtain ⟨a, o, ev, ma, z, ho, rr, no⟩ := q1
  subst ev
  have A2 := A1.push ma z ho rr no
  have nn : ∀ r ∈ ix.map (slRv Γ1), ∀ d, r ≠ Rv.new d := fun r hr d => by
    obtain ⟨i, _, e⟩ := List.mem_map.mp hr
    subst e; exact slRv_new
  have h0 : RvRel X.K Z M1 (Γ1 ++ [.ow d]) (σ ++ [some (.ref a)]) H1 (.ref a) (.own Γ1.length) := by
    show (σ ++ [some (V.ref a)])[Γ1.length]? = _
    rw [← A1.len]; simp
  refine k _ _ d a Γ1 M1 H1 n (fun r hr => ?_) A1 A2 T1 (.cons h0 (r1.app nn))
  rcases List.mem_cons.mp hr with e | hr
  · subst e; intro d; simp
  · exact nn r hr
theorem at_name {i : Nat} {y : Str} {s : Sl} {NT : List Rv → D → List Sl → Prop} (hN : X.N[i]? = some y) (hv : Vis X.env.scope y) (h1 : Γ[i]? = some s) (h : AT X Z Γ es fun rs d Γ1 => NT (rvOf i s :: rs) d Γ1)
    (hu : s.has := by exact trivial) (hd : (y == ("__debug__" : Str)) = false := by decide) (hcd : (y == ("__classdict__" : Str)) = false := by decide)
    (hs : starEach (.Name y pos :: es) X.env = (false, eval (.Name y pos) X.env) :: starEach es X.env := by rfl) : AT X Z Γ (.Name y pos :: es) NT := by
  refine pa_imp (pa_cons (pe_var hN hv hd hcd) h hs) fun σ H Q ⟨M, A, k⟩ => ?_
  obtain ⟨v, ev⟩ := known_val A h1 hu
  refine ⟨v, ev, M, A, fun rs vs d a Γ' M' H' n nn A' A2 T' q => ?_⟩
  have r0 := rvOf_rel A h1 hu ev
  have nn0 : ∀ d, rvOf i s ≠ .new d := fun d => by unfold rvOf; split <;> simp
  have r1 := r0.tr (Γ' := Γ') T' nn0
  have r2 : RvsRel X.K Z M' (Γ' ++ [.ow d]) (σ ++ [some (.ref a)]) H' [v] [rvOf i s] := RvsRel.app (.cons r1 .nil) (fun r hr => by rcases List.mem_cons.mp hr with e | e; exact e ▸ nn0; cases e)
  cases r2 with
  | cons r2 _ =>
    refine k _ _ d a Γ' M' H' n (fun r hr => ?_) A' A2 T' (.cons r2 q)
    rcases List.mem_cons.mp hr with e | hr
    · subst e; exact nn0
    · exact nn r hr
def TpN (N : Rv → List Sl → Prop) : Rv → List Sl → Prop := fun r Γ => Γ ≠ [] ∧ (match r with | .d _ => True | .new _ => True | _ => False) ∧ N r Γ.dropLast
abbrev TPost {α : Type} (c : Ct α) (Ex : XEx) (N : Rv → List Sl → Prop) (rs : List Rv) (d : D) (Γ : List Sl) : Prop := CallPost c (MkEx Ex) (TpN N) rs (Γ ++ [.ow d])
theorem tmp_sp {K : PySem.W.Frag} {M : Addr → Prop} {σ : L2.St} {H : Hp} {rs : List Rv} {vs : List V} {d : D} {a : Addr} (A : As K Z M Γ σ H) (A2 : As K Z M (Γ ++ [.ow d]) (σ ++ [some (.ref a)]) H) (hr : RvsRel K Z M (Γ ++ [.ow d]) (σ ++ [some (.ref a)]) H vs rs) (nn : ∀ r ∈ rs, ∀ d, r ≠ Rv.new d) (h : TPost c Ex N rs d Γ) {Q : VK}
    (k : ∀ r v Γ' M' H', N r Γ' → As K Z M' Γ' σ H' → Tr Z M H M' H' → RvRel K Z M' Γ' σ H' v r → Q v H') : spC K c vs H Q (WE (wOf K Z Ex) σ) := by
  refine spC.imp (fun v H' q => q) (fun cls od H' q => ?_) (call_sp (Q := Q) A2 hr nn h fun r v Γ' M' H' n A' T' q => ?_)
  · obtain ⟨D, fs, Γ'', M', ⟨hne, ex⟩, A', e2, hxd⟩ := q
    have e : Γ'' = Γ''.dropLast ++ [Γ''.getLast hne] := (List.dropLast_concat_getLast hne).symm
    rw [e] at A'
    exact ⟨D, fs, Γ''.dropLast, M', ex, A'.drop, e2, hxd⟩
  · obtain ⟨hne, hr, n⟩ := n
    have e : Γ' = Γ'.dropLast ++ [Γ'.getLast hne] := (List.dropLast_concat_getLast hne).symm
    rw [e] at A' q
    refine k r v _ _ _ n A'.drop T' ?_
    cases r with
    | d d' => exact q
    | new d' =>
      obtain ⟨b, o, ev, ma, z, ho, rr, no⟩ := q
      refine ⟨b, o, ev, ma, z, ho, rr, fun i oi => no i ?_⟩
      obtain ⟨t, h1, h2, h3⟩ := oi
      have l1 : i < Γ'.dropLast.length := by
        rcases Nat.lt_or_ge i Γ'.dropLast.length with q | q
        · exact q
        · rw [List.getElem?_eq_none (by simpa using q)] at h1; cases h1
      have l2 : i < σ.length := by
        rcases Nat.lt_or_ge i σ.length with q | q
        · exact q
        · rw [List.getElem?_eq_none (by simpa using q)] at h3; cases h3
      exact ⟨t, by rw [List.getElem?_append_left l1]; exact h1, h2, by rw [List.getElem?_append_left l2]; exact h3⟩
    | bo _ => exact hr.elim
    | own _ => exact hr.elim
    | va _ => exact hr.elim
theorem ew_callT (D : Def X.prog X.w X.K X.mg X.base x k c) (hr : Room k X.A) (tk : Takes X (wOf X.K Z Ex)) (h : AT X Z Γ (e :: es) (TPost c Ex N)) (hg : Gl X x := by rfl)
    (hdb : (x == ("__debug__" : Str)) = false := by decide) (he : starEach (e :: es) X.env = (false, eval e X.env) :: starEach es X.env := by rfl) (hpl : (backTo pos (starEach es X.env)).any (·.1) = false := by rfl) : EW X Z Γ (.Call (.Name x p) (e :: es) [] pos) N := by
  obtain ⟨f, fd, ps, F, hm, hk, hb⟩ := D.ex
  refine pe_imp (pe_callSD F hr hg hm hk hb (dvs := []) (ds := []) .nil (E := WE (wOf X.K Z Ex)) (fun σ => passAt tk σ) h hdb he hpl) fun σ H Q ⟨M, A, k⟩ => ?_
  refine ⟨M, A, fun rs vs d a Γ1 M1 H1 n1 nn A1 A2 T1 q1 => ?_⟩
  show spC X.K c (vs ++ []) H1 Q _
  rw [List.append_nil]
  exact tmp_sp A1 A2 q1 nn n1 fun r v Γ' M' H' n A' T' q => k r v Γ' M' H' n A' (T1.trans T') q
end
theorem lst_nil : D.lst [] = D.lst (List.map D.int []) := rfl
theorem lst_snoc {ns : List Int} {v : Int} : D.lst (ns.map D.int ++ [D.int v]) = D.lst ((ns ++ [v]).map D.int) := by rw [List.map_append]; rfl
/-! joins -/
section
variable {X : L2.Cx} {Z : Zc} {Γ Γ' : List Sl} {st : Stmt} {sts : List Stmt} {P : Po}
theorem ss_fgt (f : Fgt Γ Γ') (h : SS X Z Γ' sts P) : SS X Z Γ sts P := pss_imp h fun D σ H ⟨M, A, k⟩ => ⟨M, A.fgt f, k⟩
def JF (J : List Sl → Prop) (Γ : List Sl) : Prop := ∃ Γ3, J Γ3 ∧ Fgt Γ Γ3
theorem ss_join (J : List Sl → Prop) (h : SW X Z Γ st ⟨JF J, P.rt, P.bk, P.ct⟩) (k : ∀ Γ', J Γ' → SS X Z Γ' sts P) : SS X Z Γ (st :: sts) P :=
  ss_cons (h.mono (fun _ ⟨Γ3, j, f⟩ => ss_fgt f (k Γ3 j)) (fun _ _ h => h) (fun _ h => h) fun _ h => h)
theorem ns_fgt (f : Fgt Γ Γ') (h : NS X Z Γ' sts P) : NS X Z Γ sts P := pss_imp h fun D σ H ⟨M, A, k⟩ => ⟨M, A.fgt f, k⟩
theorem NW.mono {P' : Po} (h : NW X Z Γ st P) (i : ∀ Γ', P.nx Γ' → P'.nx Γ') (ir : ∀ r Γ', P.rt r Γ' → P'.rt r Γ') (ib : ∀ Γ', P.bk Γ' → P'.bk Γ') (ic : ∀ Γ', P.ct Γ' → P'.ct Γ') : NW X Z Γ st P' := ps_imp h fun D σ H ⟨M, A, k1, k2, k3, k4⟩ =>
  ⟨M, A, fun _ _ _ _ n => k1 _ _ _ _ (i _ n), fun _ _ _ _ _ _ n => k2 _ _ _ _ _ _ (ir _ _ n), fun _ _ _ _ n => k3 _ _ _ _ (ib _ n), fun _ _ _ _ n => k4 _ _ _ _ (ic _ n)⟩
theorem ns_join (J : List Sl → Prop) (h : NW X Z Γ st ⟨JF J, P.rt, P.bk, P.ct⟩) (k : ∀ Γ', J Γ' → NS X Z Γ' sts P) : NS X Z Γ (st :: sts) P :=
  ns_cons (h.mono (fun _ ⟨Γ3, j, f⟩ => ns_fgt f (k Γ3 j)) (fun _ _ h => h) (fun _ h => h) fun _ h => h)
end
theorem ss_norm {X : L2.Cx} {Z : Zc} {Γ Γ' : List Sl} {sts : List Stmt} {P : Po} (e : Γ = Γ') (h : SS X Z Γ' sts P) : SS X Z Γ sts P := e ▸ h
theorem ns_norm {X : L2.Cx} {Z : Zc} {Γ Γ' : List Sl} {sts : List Stmt} {P : Po} (e : Γ = Γ') (h : NS X Z Γ' sts P) : NS X Z Γ sts P := e ▸ h
theorem getD_revI {ns : List Int} {k : Nat} (h : k < ns.length) : (ns.map D.int).reverse.getD k .non = .int (ns.reverse.getD k 0) := by
  rw [← List.map_reverse]; exact getD_mapI (by simpa using h)
theorem ints_snoc' {l : List Int} {g : Int → Int} {k : Nat} (h : k < l.length) : (List.map D.int ((l.take k).map g)) ++ [D.int (g (l.getD k 0))] = List.map D.int ((l.take (k + 1)).map g) := by
  rw [List.take_succ, List.getElem?_eq_getElem h, List.getD_eq_getElem?_getD, List.getElem?_eq_getElem h]
  simp only [Option.toList_some, List.map_append, List.map_cons, List.map_nil, Option.getD_some]
theorem ints_filter {l : List Int} {p : Int → Bool} {k : Nat} (h : k < l.length) : List.map D.int ((l.take (k + 1)).filter p) = (if p (l.getD k 0) then List.map D.int ((l.take k).filter p) ++ [D.int (l.getD k 0)] else List.map D.int ((l.take k).filter p)) := by
  rw [List.take_succ, List.getElem?_eq_getElem h, List.getD_eq_getElem?_getD, List.getElem?_eq_getElem h]
  simp only [Option.toList_some, List.filter_append, Option.getD_some]
  by_cases hp : p l[k] <;> simp [hp]
end Lw

namespace Lw
open PySem L2
/-! == of plain data -/
mutual
/-- plain all through, in n steps -/
def shN : Nat → D → Bool
  | n + 1, .lst ds => shNs n ds
  | n + 1, .tup ds => shNs n ds
  | _, .non => true
  | _, .bl _ => true
  | _, .int _ => true
  | _, .str x => PyData.strOk x
  | _, _ => false
def shNs : Nat → List D → Bool
  | _, [] => true
  | n, d :: ds => shN n d && shNs n ds
end
mutual
theorem shN_ok : ∀ (n : Nat) (d : D), shN n d = true → okP d = true ∧ (toP d).canLay0 = true ∧ (toP d).depth ≤ n
  | n + 1, .lst ds, h => by
    have h := shNs_ok n ds (by simpa [shN] using h)
    refine ⟨by simpa [okP] using h.1, by simpa [toP, PyData.canLay0] using h.2.1, ?_⟩
    simp only [toP, PyData.depth]; have := h.2.2; omega
  | n + 1, .tup ds, h => by
    have h := shNs_ok n ds (by simpa [shN] using h)
    refine ⟨by simpa [okP] using h.1, by simpa [toP, PyData.canLay0] using h.2.1, ?_⟩
    simp only [toP, PyData.depth]; have := h.2.2; omega
  | 0, .lst ds, h => by simp [shN] at h
  | 0, .tup ds, h => by simp [shN] at h
  | n, .non, _ => by cases n <;> simp [okP, toP, PyData.canLay0, PyData.depth]
  | n, .bl b, _ => by cases n <;> simp [okP, toP, PyData.canLay0, PyData.depth]
  | n, .int b, _ => by cases n <;> simp [okP, toP, PyData.canLay0, PyData.depth]
  | n, .str x, h => by
    have h : PyData.strOk x = true := by cases n <;> simpa [shN] using h
    exact ⟨by simp [okP], by simp only [toP, PyData.canLay0]; exact h, by simp [toP, PyData.depth]⟩
  | n, .obj _ _, h => by cases n <;> simp [shN] at h
  | n, .scr _, h => by cases n <;> simp [shN] at h
  | n, .ty _, h => by cases n <;> simp [shN] at h
  | n, .cls _, h => by cases n <;> simp [shN] at h
theorem shNs_ok : ∀ (n : Nat) (ds : List D), shNs n ds = true → okPs ds = true ∧ PyData.canLayAll0 (toPs ds) = true ∧ PyData.depthAll (toPs ds) ≤ n
  | n, [], _ => by simp [okPs, toPs, PyData.canLayAll0, PyData.depthAll]
  | n, d :: ds, h => by
    rw [shNs, Bool.and_eq_true] at h
    have h1 := shN_ok n d h.1
    have h2 := shNs_ok n ds h.2
    refine ⟨by rw [okPs, h1.1, h2.1]; rfl, by rw [toPs, PyData.canLayAll0, h1.2.1, h2.2.1]; rfl, ?_⟩
    rw [toPs, PyData.depthAll]
    exact Nat.max_le.mpr ⟨h1.2.2, h2.2.2⟩
end
theorem shN_shaped {n : Nat} {d : D} (hn : n ≤ 64) (h : shN n d = true) : SeqAt.shaped (toP d) = true := by
  have h := shN_ok n d h
  unfold SeqAt.shaped
  rw [h.2.1, Bool.true_and, decide_eq_true_eq]
  omega
def eqvD (d1 d2 : D) : Bool := PyData.eqv (toP d1) (toP d2)
section
variable {K : PySem.W.Frag}
theorem o2_eqN {n : Nat} {d1 d2 : D} (hn : n ≤ 64) (h1 : shN n d1 = true) (h2 : shN n d2 = true) : Op2 K (rEqD K) d1 d2 (.sc (.bl (eqvD d1 d2))) :=
  o2_eqD (shN_ok _ _ h1).1 (shN_ok _ _ h2).1 (shN_shaped hn h1) (shN_shaped hn h2)
theorem o2_neN {n : Nat} {d1 d2 : D} (hn : n ≤ 64) (h1 : shN n d1 = true) (h2 : shN n d2 = true) : Op2 K (rNeD K) d1 d2 (.sc (.bl (!eqvD d1 d2))) :=
  o2_neD (shN_ok _ _ h1).1 (shN_ok _ _ h2).1 (shN_shaped hn h1) (shN_shaped hn h2)
end
theorem shN_int {n : Nat} {i : Int} : shN n (.int i) = true := by cases n <;> rfl
theorem shN_bl {n : Nat} {i : Bool} : shN n (.bl i) = true := by cases n <;> rfl
theorem shN_non {n : Nat} : shN n .non = true := by cases n <;> rfl
theorem shNs_all {n : Nat} : ∀ {ds : List D}, (∀ d ∈ ds, shN n d = true) → shNs n ds = true
  | [], _ => rfl
  | d :: ds, h => by rw [shNs, h d List.mem_cons_self, shNs_all fun x hx => h x (List.mem_cons_of_mem _ hx)]; rfl
theorem shN_lst {n : Nat} {α : Type} {l : List α} {g : α → D} (h : ∀ x, shN n (g x) = true) : shN (n + 1) (.lst (l.map g)) = true := by
  rw [shN]; exact shNs_all fun d hd => by obtain ⟨x, _, e⟩ := List.mem_map.mp hd; subst e; exact h x
theorem shN_tup {n : Nat} {α : Type} {l : List α} {g : α → D} (h : ∀ x, shN n (g x) = true) : shN (n + 1) (.tup (l.map g)) = true := by
  rw [shN]; exact shNs_all fun d hd => by obtain ⟨x, _, e⟩ := List.mem_map.mp hd; subst e; exact h x
theorem shN_ints {n : Nat} {ns : List Int} : shN (n + 1) (.lst (ns.map .int)) = true := shN_lst fun _ => shN_int
theorem shN_intst {n : Nat} {ns : List Int} : shN (n + 1) (.tup (ns.map .int)) = true := shN_tup fun _ => shN_int
/-! what == says -/
def eqvDs : List D → List D → Bool
  | [], [] => true
  | x :: xs, y :: ys => eqvD x y && eqvDs xs ys
  | _, _ => false
theorem eqvAll_toPs : ∀ {xs ys : List D}, PyData.eqvAll (toPs xs) (toPs ys) = eqvDs xs ys
  | [], [] => by simp [toPs, PyData.eqvAll, eqvDs]
  | [], _ :: _ => by simp [toPs, PyData.eqvAll, eqvDs]
  | _ :: _, [] => by simp [toPs, PyData.eqvAll, eqvDs]
  | x :: xs, y :: ys => by rw [toPs, toPs, PyData.eqvAll, eqvDs, eqvAll_toPs]; rfl
theorem eqvD_lst {xs ys : List D} : eqvD (.lst xs) (.lst ys) = eqvDs xs ys := by
  unfold eqvD; rw [toP, toP, PyData.eqv, eqvAll_toPs]
theorem eqvD_tup {xs ys : List D} : eqvD (.tup xs) (.tup ys) = eqvDs xs ys := by
  unfold eqvD; rw [toP, toP, PyData.eqv, eqvAll_toPs]
theorem eqvD_int {i j : Int} : eqvD (.int i) (.int j) = decide (i = j) := by
  unfold eqvD; rw [toP, toP, PyData.eqv]; by_cases h : i = j <;> simp [h]
theorem eqvD_bl {i j : Bool} : eqvD (.bl i) (.bl j) = decide (i = j) := by
  unfold eqvD; rw [toP, toP, PyData.eqv]; by_cases h : i = j <;> simp [h]
theorem eqvD_str {i j : Str} : eqvD (.str i) (.str j) = decide (i = j) := by
  unfold eqvD; rw [toP, toP, PyData.eqv]; by_cases h : i = j <;> simp [h]
/-- where the parts' == is their equality -/
theorem eqvDs_map {α : Type} {g : α → D} (h : ∀ x y, eqvD (g x) (g y) = true ↔ x = y) : ∀ {l m : List α}, eqvDs (l.map g) (m.map g) = true ↔ l = m
  | [], [] => by simp [eqvDs]
  | [], _ :: _ => by simp [eqvDs]
  | _ :: _, [] => by simp [eqvDs]
  | x :: l, y :: m => by
    simp only [List.map_cons, eqvDs, Bool.and_eq_true, List.cons.injEq]
    rw [h, eqvDs_map h]
theorem eqvD_ints {l m : List Int} : eqvD (.lst (l.map .int)) (.lst (m.map .int)) = decide (l = m) := by
  rw [eqvD_lst, Bool.eq_iff_iff, decide_eq_true_eq]
  exact eqvDs_map fun x y => by rw [eqvD_int, decide_eq_true_eq]
theorem eqvD_intst {l m : List Int} : eqvD (.tup (l.map .int)) (.tup (m.map .int)) = decide (l = m) := by
  rw [eqvD_tup, Bool.eq_iff_iff, decide_eq_true_eq]
  exact eqvDs_map fun x y => by rw [eqvD_int, decide_eq_true_eq]
/-! the law itself -/
def cLaw : Ct (List Int) := .det
  (ar := fun ns => [.im (.scr (ns.map D.int))])
  (ok := fun _ => True)
  (aft := fun ns => [.im (.scr (ns.map D.int))])
  (out := fun _ => .ret (.sc (.bl true)))
theorem law_sp {K : PySem.W.Frag} {H : Hp} {a : Addr} {ns : List Int} (hS : SqL K H a (ns.map V.int)) : spC K cLaw [.ref a] H (fun v _ => v = .bl true) fun _ _ _ => False := by
  have hH : Lw.Ext H (Hd (Un (fun _ => False) (fun _ => False)) H) := fun a o h => Hd_some.mpr ⟨fun (q : False ∨ False) => q.elim id id, h⟩
  refine ⟨ns, fun _ => False, fun _ => False, trivial, .cons (Rep.scr (Ext.l hH hS) (ints_reps ns)) .nil, fun i j a x y h1 h2 m1 _ _ _ => ?_, fun _ h => h.elim, fun _ h => h.elim, fun _ h => h.elim, fun _ _ v H' _ _ hv => hv.bl_inv⟩
  cases i with
  | zero => cases h1; cases m1
  | succ i => cases h1
/-! facts of classes -/
theorem cls_sub {K : PySem.W.Frag} {C : Addr} {t : Value} (i : PySem.W.isClsIn K C = true) (ty : PySem.W.typeIn K (.ref C) = some (.type "type")) : PySem.W.kitCls K t (.ref C) = PySem.W.subIn K t (.ref C) := by
  unfold PySem.W.kitCls
  have i' : (PySem.W.clsIn K C).isSome = true := i
  simp only [i', ty, Bool.true_and]
  rw [if_pos (by decide)]
theorem exm_ref {K : PySem.W.Frag} {E C : Addr} {b : Bool} (sB : PySem.W.subIn K (.ref C) (.type "BaseException") = some true) (i : PySem.W.isClsIn K C = true) (ty : PySem.W.typeIn K (.ref C) = some (.type "type")) (s : PySem.W.subIn K (.ref E) (.ref C) = some b) : PySem.W.exmOne K (.ref E) (.ref C) = some b := by
  unfold PySem.W.exmOne
  rw [sB, if_pos (by decide), cls_sub i ty]; exact s
theorem kit_ref {K : PySem.W.Frag} {E C : Addr} {b : Bool} (i : PySem.W.isClsIn K C = true) (ty : PySem.W.typeIn K (.ref C) = some (.type "type")) (s : PySem.W.subIn K (.ref E) (.ref C) = some b) (ss : PySem.W.subIn K (.ref C) (.ref C) = some true) : PySem.W.kitOne K (.ref E) (.ref C) = some b := by
  unfold PySem.W.kitOne
  split
  · rename_i h
    have e : (Value.ref E) = .ref C := beq_iff_eq.mp h
    rw [e] at s
    exact ss.symm.trans s
  · rw [cls_sub i ty]; exact s
theorem kit_val {K : PySem.W.Frag} {E : Addr} {b : Bool} (s : PySem.W.subIn K (.ref E) (.type "ValueError") = some b) : PySem.W.kitOne K (.ref E) (.type "ValueError") = some b := by
  unfold PySem.W.kitOne
  rw [if_neg (by intro h; have := beq_iff_eq.mp h; cases this)]
  unfold PySem.W.kitCls
  simp only []
  rw [if_pos (by decide +kernel)]; exact s
theorem cx_no {P : Program} {w : World} {outer : List Env} {H : Hp} {s s' : Shared} {u : Value} (h : L2.CX P w outer H s (fun _ _ _ => False) u s') : False := by
  obtain ⟨_, _, _, _, _, _, _, _, _, _, _, _, f⟩ := h
  exact f
end Lw

namespace Lw
open PySem L2 PyProof.Rows
section
variable {X : L2.Cx} {Z : Zc} {Γ : List Sl} {N : Rv → List Sl → Prop} {a b c e o i : Expr} {es : List Expr} {pos apos p : Pos} {P : Po} {k : Nat} {α : Type} {ct : Ct α} {C : Addr} {K : PySem.W.Frag} {Ex : XEx}
/-! operators of own instances, which may raise -/
theorem back_rel {z : V} {u : Value} {s : Shared} {Q : Value → Shared → Prop} (r : RelV z u) (q : Q u s) : PySem.W.CmpBack Q u s := by
  cases z with
  | non => cases r; exact q
  | bl b => cases r; exact q
  | int i => obtain ⟨t, rfl⟩ := r; exact q
  | str i => obtain ⟨t, rfl⟩ := r; exact q
  | byt i => obtain ⟨t, rfl⟩ := r; exact q
  | flt i => obtain ⟨t, rfl⟩ := r; exact q
  | ref a => cases r; exact q
  | ty n => cases r; exact q
theorem mono_back {M : Model} {A : Around} {m : Sem Value} {s : Shared} {E : Value → Shared → Prop} {pins : List (Addr × Obj)} {σ : L2.St} {Q : VK} (h : wpAny M A m (EP X pins σ Q) E s) : wpAny M A m (PySem.W.CmpBack (EP X pins σ Q)) E s :=
  wpAny_mono h (fun r s' hq => by
    obtain ⟨z, H', I', rz, q'⟩ := id hq
    exact back_rel rz hq) fun _ _ z => z
def rBinO (C : Addr) (sp : Sp) (E : XK) : R2 := fun x y H Q => ∃ a b dx dy fs gs, x = .ref a ∧ y = .ref b ∧ H a = some (.ins C dx fs) ∧ H b = some (.ins C dy gs) ∧ sp [x, y] H Q E
theorem pe_binO {op : Operator} {nm : Str} {sp : Sp} {E : L2.St → XK} {ta tb : TE} (D : Dun X.prog X.w X.K X.mg X.base C nm k sp) (hr : Room k X.A) (hx : ∀ σ, PassesAt (L2.CX X.prog X.w) X σ (E σ)) (hc : PySem.W.selfFirst X.K C = true)
    (hd : PySem.dunder op.info.2 = nm) (ha : PE X a ta) (hb : PE X b tb) : PE X (.BinOp a op b pos) (fun σ H Q => tOp (rBinO C sp (E σ)) ta tb σ H Q) := by
  obtain ⟨f, fd, ps, F, hs, hf, hbd⟩ := D.ex
  refine ⟨fun pins s σ H Q I h => ?_⟩
  refine wpAny_BinOp (binT ha hb I h fun v u s2 x y H2 I2 rx ry q => ?_)
  obtain ⟨a, b, dx, dy, fs, gs, rfl, rfl, h1, h2, q⟩ := q
  cases rx
  cases ry
  obtain ⟨_, _, J⟩ := Inv.inst I2 h1
  obtain ⟨_, _, J'⟩ := Inv.inst I2 h2
  obtain ⟨m, hF⟩ := I2.fr
  refine PySem.W.binop_K hF I2.ok.mod.kin J J'.type hc (by rw [hd]; exact hs) hf ?_
  exact mono_back (run_fnSD (us := [.ref a, .ref b]) (vs := [.ref a, .ref b]) (dvs := []) (ds := []) F hr hbd .nil (hx σ) I2 (.cons (rref a) (.cons (rref b) .nil)) (by rw [List.append_nil]; exact q))
def rBinI (C : Addr) (sp : Sp) (E : XK) : R2 := fun x y H Q => ∃ a j dx fs, x = .ref a ∧ y = .int j ∧ H a = some (.ins C dx fs) ∧ sp [x, y] H Q E
/-- what o op n asks of the class of o and of int -/
structure BinI (K : PySem.W.Frag) (C : Addr) (nm rm : Str) : Prop where
  sf : PySem.W.selfFirst K C = true
  r : ∃ rc, PySem.W.findIn K (.ref C) rm = some rc ∧ (rc = none ∨ ∃ g : Addr, rc = some (.ref g))
  i1 : ∃ fo, PySem.W.findIn K (.type "int") nm = some fo
  i2 : ∃ ro, PySem.W.findIn K (.type "int") rm = some ro
  su : PySem.W.subIn K (.type "int") (.ref C) = some false
theorem pe_binI {op : Operator} {nm rm : Str} {sp : Sp} {E : L2.St → XK} {ta tb : TE} (D : Dun X.prog X.w X.K X.mg X.base C nm k sp) (hr : Room k X.A) (hx : ∀ σ, PassesAt (L2.CX X.prog X.w) X σ (E σ)) (B : BinI X.K C nm rm)
    (hd : PySem.dunder op.info.2 = nm) (hd2 : dunderR op.info.2 = rm) (ha : PE X a ta) (hb : PE X b tb) : PE X (.BinOp a op b pos) (fun σ H Q => tOp (rBinI C sp (E σ)) ta tb σ H Q) := by
  obtain ⟨f, fd, ps, F, hs, hf, hbd⟩ := D.ex
  obtain ⟨sf, ⟨rc, r1, r2⟩, ⟨fo, i1⟩, ⟨ro, i2⟩, su⟩ := B
  refine ⟨fun pins s σ H Q I h => ?_⟩
  refine wpAny_BinOp (binT ha hb I h fun v u s2 x y H2 I2 rx ry q => ?_)
  obtain ⟨a, j, dx, fs, rfl, rfl, h1, q⟩ := q
  cases rx
  obtain ⟨t, rfl⟩ := ry
  obtain ⟨_, _, J⟩ := Inv.inst I2 h1
  obtain ⟨m, hF⟩ := I2.fr
  refine PySem.W.ksp_binT (T := "int") hF I2.ok.mod.kin J rfl sf (by rw [hd]; exact hs) hf (by rw [hd2]; exact r1) r2 (by rw [hd]; exact i1) (by rw [hd2]; exact i2) su ?_
  exact mono_back (run_fnSD (us := [.ref a, .int j t]) (vs := [.ref a, .int j]) (dvs := []) (ds := []) F hr hbd .nil (hx σ) I2 (.cons (rref a) (.cons ⟨t, rfl⟩ .nil)) (by rw [List.append_nil]; exact q))
theorem own2E {E : L2.St → XK} {rr : XK → R2} {eo : Expr} (hp : ∀ ta tb, PE X a ta → PE X b tb → PE X eo (fun σ H Q => tOp (rr (E σ)) ta tb σ H Q)) (Cnd : Rv → Rv → List Sl → Prop)
    (hrun : ∀ {M σ H r1 r2 Γ2 x y}, As X.K Z M Γ2 σ H → RvRel X.K Z M Γ2 σ H x r1 → (∀ d, r1 ≠ .new d) → RvRel X.K Z M Γ2 σ H y r2 → (∀ d, r2 ≠ .new d) → Cnd r1 r2 Γ2 → ∀ (Q : VK), (∀ r v Γ' M' H', N r Γ' → As X.K Z M' Γ' σ H' → Tr Z M H M' H' → RvRel X.K Z M' Γ' σ H' v r → Q v H') → rr (E σ) x y H Q)
    (h : EW X Z Γ a fun r1 Γ1 => Fz r1 Γ1 fun r1 Γ1 => EW X Z Γ1 b fun r2 Γ2 => Fz r2 Γ2 fun r2 Γ2 => Cnd r1 r2 Γ2) : EW X Z Γ eo N := by
  let N2 : Rv → Rv → List Sl → Prop := fun r1 r2 Γ2 => Fz r2 Γ2 fun r2 Γ2 => Cnd r1 r2 Γ2
  have hb : PE X b (fun σ H Q => ∃ i : Rv × List Sl, EW X Z i.2 b (N2 i.1) ∧ tOf X.K Z i.2 (N2 i.1) σ H Q) := pe_ex fun i hi => hi
  refine pe_imp (hp _ _ h hb) fun σ H Q ⟨M, A, k⟩ => ?_
  refine ⟨M, A, fun r1 v1 Γ1 M1 H1 n1 A1 T1 q1 => ?_⟩
  obtain ⟨M2, r1', A2, T2, q2, nn, hb'⟩ := A1.fz' q1 n1
  refine ⟨(r1', Γ1), hb', M2, A2, fun r2 v2 Γ2 M3 H3 n3 A3 T3 q3 => ?_⟩
  obtain ⟨M4, r2', A4, T4, q4, nn4, hc⟩ := A3.fz' q3 n3
  exact hrun A4 (RvRel.tr (Γ' := Γ2) T4 (RvRel.tr (Γ' := Γ2) T3 q2 nn) nn) nn q4 nn4 hc Q fun r v Γ' M' H' n A' T' q => k r v Γ' M' H' n A' ((((T1.trans T2).trans T3).trans T4).trans T') q
theorem ew_binO {op : Operator} {nm : Str} (D : Dun X.prog X.w X.K X.mg X.base C nm k (spC X.K ct)) (hr : Room k X.A) (tk : Takes X (wOf X.K Z Ex)) (hc : PySem.W.selfFirst X.K C = true) (hd : PySem.dunder op.info.2 = nm)
    (h : EW X Z Γ a fun r1 Γ1 => Fz r1 Γ1 fun r1 Γ1 => EW X Z Γ1 b fun r2 Γ2 => Fz r2 Γ2 fun r2 Γ2 => isObj C Γ2 r1 ∧ isObj C Γ2 r2 ∧ CallPost ct Ex N [r1, r2] Γ2) : EW X Z Γ (.BinOp a op b pos) N :=
  own2E (E := WE (wOf X.K Z Ex)) (rr := rBinO C (spC X.K ct)) (fun _ _ ha hb => pe_binO D hr (fun σ => passAt tk σ) hc hd ha hb) _ (fun {M σ H r1 r2 Γ2 x y} A q1 n1 q2 n2 ⟨o1, o2, cp⟩ Q k => by
    obtain ⟨a, dx, fs, e1, h1⟩ := o1.get A q1
    obtain ⟨b, dy, gs, e2, h2⟩ := o2.get A q2
    exact ⟨a, b, dx, dy, fs, gs, e1, e2, h1, h2, call_sp A (.cons q1 (.cons q2 .nil)) (nn2 n1 n2) cp k⟩) h
theorem ew_binI {op : Operator} {nm rm : Str} (D : Dun X.prog X.w X.K X.mg X.base C nm k (spC X.K ct)) (hr : Room k X.A) (tk : Takes X (wOf X.K Z Ex)) (B : BinI X.K C nm rm) (hd : PySem.dunder op.info.2 = nm) (hd2 : dunderR op.info.2 = rm)
    (h : EW X Z Γ a fun r1 Γ1 => Fz r1 Γ1 fun r1 Γ1 => EW X Z Γ1 b fun r2 Γ2 => Fz r2 Γ2 fun r2 Γ2 => isObj C Γ2 r1 ∧ (∃ j, r2 = .d (.int j)) ∧ CallPost ct Ex N [r1, r2] Γ2) : EW X Z Γ (.BinOp a op b pos) N :=
  own2E (E := WE (wOf X.K Z Ex)) (rr := rBinI C (spC X.K ct)) (fun _ _ ha hb => pe_binI D hr (fun σ => passAt tk σ) B hd hd2 ha hb) _ (fun {M σ H r1 r2 Γ2 x y} A q1 n1 q2 n2 ⟨o1, ⟨j, ej⟩, cp⟩ Q k => by
    subst ej
    obtain ⟨a, dx, fs, e1, h1⟩ := o1.get A q1
    exact ⟨a, j, dx, fs, e1, Rep.int_inv q2, h1, call_sp A (.cons q1 (.cons q2 .nil)) (nn2 n1 n2) cp k⟩) h
/-! -o, ~o -/
def rUnO (C : Addr) (sp : Sp) (E : XK) : V → Hp → VK → Prop := fun x H Q => ∃ a dx fs, x = .ref a ∧ H a = some (.ins C dx fs) ∧ sp [x] H Q E
theorem pe_negO {sp : Sp} {E : L2.St → XK} {ta : TE} (D : Dun X.prog X.w X.K X.mg X.base C "__neg__" k sp) (hr : Room k X.A) (hx : ∀ σ, PassesAt (L2.CX X.prog X.w) X σ (E σ)) (ha : PE X a ta) : PE X (.UnaryOp .USub a pos) (fun σ H Q => tUn (rUnO C sp (E σ)) ta σ H Q) := by
  obtain ⟨f, fd, ps, F, hs, hf, hbd⟩ := D.ex
  refine ⟨fun pins s σ H Q I h => ?_⟩
  refine UnaryOp_ (thn (ha.run pins s σ H _ I h) fun v s1 ⟨x, H1, I1, r1, q1⟩ => ?_)
  obtain ⟨a, dx, fs, rfl, h1, q⟩ := q1
  cases r1
  obtain ⟨_, _, J⟩ := Inv.inst I1 h1
  obtain ⟨m, hF⟩ := I1.fr
  exact PySem.W.ksp_neg hF I1.ok.mod.kin J hs hf (run_fnSD (us := [.ref a]) (vs := [.ref a]) (dvs := []) (ds := []) F hr hbd .nil (hx σ) I1 (.cons (rref a) .nil) (by rw [List.append_nil]; exact q))
theorem pe_invO {sp : Sp} {E : L2.St → XK} {ta : TE} (D : Dun X.prog X.w X.K X.mg X.base C "__invert__" k sp) (hr : Room k X.A) (hx : ∀ σ, PassesAt (L2.CX X.prog X.w) X σ (E σ)) (ha : PE X a ta) : PE X (.UnaryOp .Invert a pos) (fun σ H Q => tUn (rUnO C sp (E σ)) ta σ H Q) := by
  obtain ⟨f, fd, ps, F, hs, hf, hbd⟩ := D.ex
  refine ⟨fun pins s σ H Q I h => ?_⟩
  refine UnaryOp_ (thn (ha.run pins s σ H _ I h) fun v s1 ⟨x, H1, I1, r1, q1⟩ => ?_)
  obtain ⟨a, dx, fs, rfl, h1, q⟩ := q1
  cases r1
  obtain ⟨_, _, J⟩ := Inv.inst I1 h1
  obtain ⟨m, hF⟩ := I1.fr
  exact PySem.W.ksp_inv hF I1.ok.mod.kin J hs hf (run_fnSD (us := [.ref a]) (vs := [.ref a]) (dvs := []) (ds := []) F hr hbd .nil (hx σ) I1 (.cons (rref a) .nil) (by rw [List.append_nil]; exact q))
theorem nn1 {r1 : Rv} (h1 : ∀ d, r1 ≠ Rv.new d) : ∀ r ∈ [r1], ∀ d, r ≠ Rv.new d := fun r hr => by
  rcases List.mem_cons.mp hr with e | hr
  · subst e; exact h1
  · cases hr
theorem own1E {E : L2.St → XK} {rr : XK → V → Hp → VK → Prop} {eo : Expr} (hp : ∀ ta, PE X a ta → PE X eo (fun σ H Q => tUn (rr (E σ)) ta σ H Q)) (Cnd : Rv → List Sl → Prop)
    (hrun : ∀ {M σ H r1 Γ2 x}, As X.K Z M Γ2 σ H → RvRel X.K Z M Γ2 σ H x r1 → (∀ d, r1 ≠ .new d) → Cnd r1 Γ2 → ∀ (Q : VK), (∀ r v Γ' M' H', N r Γ' → As X.K Z M' Γ' σ H' → Tr Z M H M' H' → RvRel X.K Z M' Γ' σ H' v r → Q v H') → rr (E σ) x H Q)
    (h : EW X Z Γ a fun r1 Γ1 => Fz r1 Γ1 fun r1 Γ1 => Cnd r1 Γ1) : EW X Z Γ eo N := by
  refine pe_imp (hp _ h) fun σ H Q ⟨M, A, k⟩ => ?_
  refine ⟨M, A, fun r1 v1 Γ1 M1 H1 n1 A1 T1 q1 => ?_⟩
  obtain ⟨M2, r1', A2, T2, q2, nn, hc⟩ := A1.fz' q1 n1
  exact hrun A2 q2 nn hc Q fun r v Γ' M' H' n A' T' q => k r v Γ' M' H' n A' ((T1.trans T2).trans T') q
theorem ew_negO (D : Dun X.prog X.w X.K X.mg X.base C "__neg__" k (spC X.K ct)) (hr : Room k X.A) (tk : Takes X (wOf X.K Z Ex)) (h : EW X Z Γ a fun r1 Γ1 => Fz r1 Γ1 fun r1 Γ1 => isObj C Γ1 r1 ∧ CallPost ct Ex N [r1] Γ1) : EW X Z Γ (.UnaryOp .USub a pos) N :=
  own1E (E := WE (wOf X.K Z Ex)) (rr := rUnO C (spC X.K ct)) (fun _ ha => pe_negO D hr (fun σ => passAt tk σ) ha) _ (fun {M σ H r1 Γ2 x} A q1 n1 ⟨o1, cp⟩ Q k => by
    obtain ⟨a, dx, fs, e1, h1⟩ := o1.get A q1
    exact ⟨a, dx, fs, e1, h1, call_sp A (.cons q1 .nil) (nn1 n1) cp k⟩) h
theorem ew_invO (D : Dun X.prog X.w X.K X.mg X.base C "__invert__" k (spC X.K ct)) (hr : Room k X.A) (tk : Takes X (wOf X.K Z Ex)) (h : EW X Z Γ a fun r1 Γ1 => Fz r1 Γ1 fun r1 Γ1 => isObj C Γ1 r1 ∧ CallPost ct Ex N [r1] Γ1) : EW X Z Γ (.UnaryOp .Invert a pos) N :=
  own1E (E := WE (wOf X.K Z Ex)) (rr := rUnO C (spC X.K ct)) (fun _ ha => pe_invO D hr (fun σ => passAt tk σ) ha) _ (fun {M σ H r1 Γ2 x} A q1 n1 ⟨o1, cp⟩ Q k => by
    obtain ⟨a, dx, fs, e1, h1⟩ := o1.get A q1
    exact ⟨a, dx, fs, e1, h1, call_sp A (.cons q1 .nil) (nn1 n1) cp k⟩) h
/-! own ==, in, not in, as tests -/
variable {NB : Bool → List Sl → Prop}
theorem own2T {rr : R2} {op : CmpOp} (ho : OpR X (compareOp op) rr) (hm : behindInMarks op b = false) (Cnd : Rv → Rv → List Sl → Prop)
    (hrun : ∀ {M σ H r1 r2 Γ2 x y}, As X.K Z M Γ2 σ H → RvRel X.K Z M Γ2 σ H x r1 → (∀ d, r1 ≠ .new d) → RvRel X.K Z M Γ2 σ H y r2 → (∀ d, r2 ≠ .new d) → Cnd r1 r2 Γ2 → ∀ (Q : VK), (∀ c Γ' M' H', NB c Γ' → As X.K Z M' Γ' σ H' → Tr Z M H M' H' → Q (.bl c) H') → rr x y H Q)
    (h : EW X Z Γ a fun r1 Γ1 => Fz r1 Γ1 fun r1 Γ1 => EW X Z Γ1 b fun r2 Γ2 => Fz r2 Γ2 fun r2 Γ2 => Cnd r1 r2 Γ2) : TW X Z Γ (.Compare a [op] [b] pos) NB := by
  let N2 : Rv → Rv → List Sl → Prop := fun r1 r2 Γ2 => Fz r2 Γ2 fun r2 Γ2 => Cnd r1 r2 Γ2
  have hb : PE X b (fun σ H Q => ∃ i : Rv × List Sl, EW X Z i.2 b (N2 i.1) ∧ tOf X.K Z i.2 (N2 i.1) σ H Q) := pe_ex fun i hi => hi
  refine pt_imp (pt_cmpR ho h hb hm) fun σ H Q ⟨M, A, k⟩ => ?_
  refine ⟨M, A, fun r1 v1 Γ1 M1 H1 n1 A1 T1 q1 => ?_⟩
  obtain ⟨M2, r1', A2, T2, q2, nn, hb'⟩ := A1.fz' q1 n1
  refine ⟨(r1', Γ1), hb', M2, A2, fun r2 v2 Γ2 M3 H3 n3 A3 T3 q3 => ?_⟩
  obtain ⟨M4, r2', A4, T4, q4, nn4, hc⟩ := A3.fz' q3 n3
  exact hrun A4 (RvRel.tr (Γ' := Γ2) T4 (RvRel.tr (Γ' := Γ2) T3 q2 nn) nn) nn q4 nn4 hc _ fun c Γ' M' H' n A' T' => ⟨c, rfl, k _ _ _ _ n A' ((((T1.trans T2).trans T3).trans T4).trans T')⟩
theorem tw_eqOwn (D : Dun X.prog X.w X.K X.mg X.base C "__eq__" k (spC X.K ct)) (hr : Room k X.A)
    (h : EW X Z Γ a fun r1 Γ1 => Fz r1 Γ1 fun r1 Γ1 => EW X Z Γ1 b fun r2 Γ2 => Fz r2 Γ2 fun r2 Γ2 => isObj C Γ2 r1 ∧ isObj C Γ2 r2 ∧ CallPost ct NoX (fun r Γ' => ∃ c, r = .d (.bl c) ∧ NB c Γ') [r1, r2] Γ2) (hm : behindInMarks .Eq b = false := by first | exact nomark _ | rfl) : TW X Z Γ (.Compare a [.Eq] [b] pos) NB :=
  own2T (op_eqOwn D hr) hm _ (fun {M σ H r1 r2 Γ2 x y} A q1 n1 q2 n2 ⟨o1, o2, cp⟩ Q k => by
    obtain ⟨a, dx, fs, e1, h1⟩ := o1.get A q1
    obtain ⟨b, dy, gs, e2, h2⟩ := o2.get A q2
    refine ⟨a, b, dx, dy, fs, gs, e1, e2, h1, h2, ?_⟩
    refine spC.imp (fun v H' q => q) (fun c d H' q => WE_false q) (call_sp (Q := fun v H' => (∃ c, v = .bl c) ∧ Q v H') A (.cons q1 (.cons q2 .nil)) (nn2 n1 n2) cp fun r v Γ' M' H' ⟨c, er, n⟩ A' T' q => ?_)
    subst er
    rw [Rep.bl_inv q]
    exact ⟨⟨c, rfl⟩, k _ _ _ _ n A' T'⟩) h
theorem tw_inOwn (D : Dun X.prog X.w X.K X.mg X.base C "__contains__" k (spC X.K ct)) (hr : Room k X.A)
    (h : EW X Z Γ a fun r1 Γ1 => Fz r1 Γ1 fun r1 Γ1 => EW X Z Γ1 b fun r2 Γ2 => Fz r2 Γ2 fun r2 Γ2 => isObj C Γ2 r2 ∧ CallPost ct NoX (fun r Γ' => ∃ c, r = .d (.bl c) ∧ NB c Γ') [r2, r1] Γ2) (hm : behindInMarks .In b = false := by first | exact nomark _ | rfl) : TW X Z Γ (.Compare a [.In] [b] pos) NB :=
  own2T (op_inOwn D hr) hm _ (fun {M σ H r1 r2 Γ2 x y} A q1 n1 q2 n2 ⟨o2, cp⟩ Q k => by
    obtain ⟨b, dy, gs, e2, h2⟩ := o2.get A q2
    refine ⟨b, dy, gs, e2, h2, ?_⟩
    refine spC.imp (fun v H' q => q) (fun c d H' q => WE_false q) (call_sp (Q := fun v H' => ∃ c, v = .bl c ∧ Q (.bl (if false then !c else c)) H') A (.cons q2 (.cons q1 .nil)) (nn2 n2 n1) cp fun r v Γ' M' H' ⟨c, er, n⟩ A' T' q => ?_)
    subst er
    exact ⟨c, Rep.bl_inv q, k _ _ _ _ n A' T'⟩) h
theorem tw_ninOwn (D : Dun X.prog X.w X.K X.mg X.base C "__contains__" k (spC X.K ct)) (hr : Room k X.A)
    (h : EW X Z Γ a fun r1 Γ1 => Fz r1 Γ1 fun r1 Γ1 => EW X Z Γ1 b fun r2 Γ2 => Fz r2 Γ2 fun r2 Γ2 => isObj C Γ2 r2 ∧ CallPost ct NoX (fun r Γ' => ∃ c, r = .d (.bl c) ∧ NB (!c) Γ') [r2, r1] Γ2) (hm : behindInMarks .NotIn b = false := by first | exact nomark _ | rfl) : TW X Z Γ (.Compare a [.NotIn] [b] pos) NB :=
  own2T (op_ninOwn D hr) hm _ (fun {M σ H r1 r2 Γ2 x y} A q1 n1 q2 n2 ⟨o2, cp⟩ Q k => by
    obtain ⟨b, dy, gs, e2, h2⟩ := o2.get A q2
    refine ⟨b, dy, gs, e2, h2, ?_⟩
    refine spC.imp (fun v H' q => q) (fun c d H' q => WE_false q) (call_sp (Q := fun v H' => ∃ c, v = .bl c ∧ Q (.bl (if true then !c else c)) H') A (.cons q2 (.cons q1 .nil)) (nn2 n2 n1) cp fun r v Γ' M' H' ⟨c, er, n⟩ A' T' q => ?_)
    subst er
    exact ⟨c, Rep.bl_inv q, k _ _ _ _ n A' T'⟩) h
end
end Lw

namespace Lw
open PySem L2 PyProof.Rows
section
variable {X : L2.Cx} {Z : Zc} {Γ : List Sl} {N : Rv → List Sl → Prop} {a b c e o i : Expr} {es : List Expr} {pos apos p p1 p2 : Pos}
/-! list(range(..)) -/
theorem cr_range1 : CallR X (.type "range") (fun vs H Q => ∃ j, vs = [V.int j] ∧ ∀ p, H p = none → Q (.ref p) (upd H p (.rng 0 j))) := by
  intro pins s σ H vs us Q I r h
  obtain ⟨j, rfl, q⟩ := h
  obtain ⟨u1, rfl, rj⟩ := r.one
  obtain ⟨u, rfl⟩ := rj
  refine call_range_1 ⟨.ref s.heap.objs.size, upd H s.heap.objs.size (.rng 0 j), I.laid (t' := s.toks + 1 + 1) (fun b o e => Heap.get?_push_of_some _ e) (Nat.le_refl _) ?_, rfl, q _ (I.hok.fresh (Nat.le_refl _))⟩
  exact ⟨s.toks, u, s.toks + 1, Heap.get?_push_size _ rfl⟩
theorem vals_of : ∀ {its : List Value} {f : Nat → V}, (∀ k v, its[k]? = some v → RelV (f k) v) → Vals ((List.range its.length).map f) its
  | [], _, _ => .nil
  | u :: its, f, h => by
    rw [List.length_cons, List.range_succ_eq_map, List.map_cons, List.map_map]
    exact .cons (h 0 u rfl) (vals_of fun k v e => h (k + 1) v (by simpa using e))
def rngV (i j : Int) : List V := (List.range (j - i).toNat).map fun k => V.int (i + (k : Nat))
theorem call_listRng (hc : X.calm = true) : CallR X (.type "list") (fun vs H Q => ∃ p i j, vs = [V.ref p] ∧ H p = some (.rng i j) ∧ (-(2 ^ 62) ≤ i ∧ i < 2 ^ 62 ∧ -(2 ^ 62) ≤ j ∧ j < 2 ^ 62) ∧ (j - i).toNat ≤ 100000 ∧ ∀ l, H l = none → Q (.ref l) (upd H l (.lst (rngV i j)))) := by
  intro pins s σ H vs us Q I r h
  obtain ⟨p, i, j, rfl, hp, ⟨h1, h2, h3, h4⟩, hl, q⟩ := h
  obtain ⟨u, rfl, ru⟩ := r.one
  cases ru
  obtain ⟨t, u, v, ho⟩ := I.hok p _ hp
  refine call_list_range (n := (j - i).toNat) (I.ok.hd hc) ho (small_one h1 h2 h3 h4) ?_ (by omega) fun h' tk acc' c' hk hS' hacc => ?_
  · exact rangeSize_nat i j
  · have hlen : acc'.toList.length = (j - i).toNat := by simpa using hacc.1
    have hv : Vals (rngV i j) acc'.toList := by
      unfold rngV
      rw [← hlen]
      refine vals_of fun k v e => ?_
      obtain ⟨tk, rfl⟩ := hacc.2 k v (by simpa using e)
      exact ⟨tk, by rw [Int.mul_one]⟩
    refine ⟨.ref s.heap.objs.size, _, I.laid (t' := tk) hk (Nat.le_refl _) (show ObjOk X.prog X.w _ h' _ (.lst (rngV i j)) from ⟨?_, acc'.toList, c', hv, by simpa using hS'⟩), rfl, q _ (I.hok.fresh (Nat.le_refl _))⟩
    unfold rngV
    rw [List.length_map, List.length_range, sizeLine_eq]; omega
def rngI (i j : Int) : List Int := (List.range (j - i).toNat).map fun (k : Nat) => i + (k : Int)
theorem rngV_reps {K : PySem.W.Frag} {H : Hp} {i j : Int} : Reps K H (rngV i j) ((rngI i j).map D.int) := by
  have e : rngV i j = (rngI i j).map V.int := by unfold rngV rngI; rw [List.map_map]; rfl
  rw [e]; exact ints_reps _
theorem As.rng {K : PySem.W.Frag} {M : Addr → Prop} {σ : L2.St} {H : Hp} (A : As K Z M Γ σ H) {q l : Addr} {i j : Int} (hq : H q = none) (hl : (upd H q (.rng i j)) l = none) :
    ∃ M', As K Z M' Γ σ (upd (upd H q (.rng i j)) l (.lst (rngV i j))) ∧ Tr Z M H M' (upd (upd H q (.rng i j)) l (.lst (rngV i j))) ∧ RvRel K Z M' Γ σ (upd (upd H q (.rng i j)) l (.lst (rngV i j))) (.ref l) (.new (.lst ((rngI i j).map D.int))) := by
  obtain ⟨A1, T1⟩ := A.grow (Ext.new (o := .rng i j) hq)
  obtain ⟨M2, A2, T2, r2⟩ := A1.rs (z := .ref l) (rs := .nw (.lst ((rngI i j).map D.int))) ⟨l, .lst (rngV i j), rfl, hl, rfl, .lst rngV_reps⟩
  exact ⟨M2, A2, T1.trans T2, r2⟩
theorem ew_listRng1 (hc : X.calm = true) (hml : X.mg "list" = none) (hmr : X.mg "range" = none) (h : AW X Z Γ [a] fun rs Γ1 => ∃ j : Int, views Γ1 rs [.int j] ∧ (-(2 ^ 62) ≤ j ∧ j ≤ 100000) ∧ N (.new (.lst ((rngI 0 j).map D.int))) Γ1) (hgl : Gl X "list" := by rfl) (hgr : Gl X "range" := by rfl)
    (he1 : starEach [a] X.env = (false, eval a X.env) :: starEach [] X.env := by rfl) (he2 : starEach [.Call (.Name "range" p2) [a] [] p1] X.env = (false, eval (.Call (.Name "range" p2) [a] [] p1) X.env) :: starEach [] X.env := by rfl) : EW X Z Γ (.Call (.Name "list" p) [.Call (.Name "range" p2) [a] [] p1] [] pos) N := by
  refine pe_imp (pe_callTy (call_listRng hc) hgl hml bb_list (pa_cons (pe_callTy cr_range1 hgr hmr (by decide +kernel) h (by decide) (by decide) he1 rfl) pa_nil he2) (by decide) (by decide) he2 rfl) fun σ H Q ⟨M, A, k⟩ => ?_
  refine ⟨M, A, fun rs vs Γ1 M1 H1 ⟨j, w, ⟨b1, b2⟩, n⟩ nn A1 T1 q1 => ?_⟩
  obtain ⟨v, rfl, rv⟩ := (A1.views q1 w).one
  rw [rv.int_inv]
  refine ⟨j, rfl, fun q hq => ⟨q, 0, j, rfl, upd_same, ⟨by omega, by omega, by omega, by omega⟩, by omega, fun l hl => ?_⟩⟩
  obtain ⟨M2, A2, T2, r2⟩ := A1.rng (i := 0) (j := j) hq hl
  exact k _ _ _ _ _ n A2 (T1.trans T2) r2
theorem ew_listRng2 (hc : X.calm = true) (hml : X.mg "list" = none) (hmr : X.mg "range" = none) (h : AW X Z Γ [a, b] fun rs Γ1 => ∃ i j : Int, views Γ1 rs [.int i, .int j] ∧ (-(2 ^ 62) ≤ i ∧ i < 2 ^ 62 ∧ -(2 ^ 62) ≤ j ∧ j < 2 ^ 62 ∧ j - i ≤ 100000) ∧ N (.new (.lst ((rngI i j).map D.int))) Γ1) (hgl : Gl X "list" := by rfl) (hgr : Gl X "range" := by rfl)
    (he1 : starEach [a, b] X.env = (false, eval a X.env) :: starEach [b] X.env := by rfl) (he2 : starEach [.Call (.Name "range" p2) [a, b] [] p1] X.env = (false, eval (.Call (.Name "range" p2) [a, b] [] p1) X.env) :: starEach [] X.env := by rfl)
    (hpl : (backTo p1 (starEach [b] X.env)).any (·.1) = false := by rfl) : EW X Z Γ (.Call (.Name "list" p) [.Call (.Name "range" p2) [a, b] [] p1] [] pos) N := by
  refine pe_imp (pe_callTy (call_listRng hc) hgl hml bb_list (pa_cons (pe_callTy cr_range2 hgr hmr (by decide +kernel) h (by decide) (by decide) he1 hpl) pa_nil he2) (by decide) (by decide) he2 rfl) fun σ H Q ⟨M, A, k⟩ => ?_
  refine ⟨M, A, fun rs vs Γ1 M1 H1 ⟨i, j, w, ⟨b1, b2, b3, b4, b5⟩, n⟩ nn A1 T1 q1 => ?_⟩
  obtain ⟨v, u, rfl, rv, ru⟩ := (A1.views q1 w).two
  rw [rv.int_inv, ru.int_inv]
  refine ⟨i, j, rfl, fun q hq => ⟨q, i, j, rfl, upd_same, ⟨by omega, by omega, by omega, by omega⟩, by omega, fun l hl => ?_⟩⟩
  obtain ⟨M2, A2, T2, r2⟩ := A1.rng (i := i) (j := j) hq hl
  exact k _ _ _ _ _ n A2 (T1.trans T2) r2
theorem nil_map : ([] : List D) = List.map D.int [] := rfl
theorem snoc_map {ns : List Int} {v : Int} : List.map D.int ns ++ [D.int v] = List.map D.int (ns ++ [v]) := by rw [List.map_append]; rfl
theorem range_snoc {g : Nat → Int} {k : Nat} : List.map D.int ((List.range k).map g) ++ [D.int (g k)] = List.map D.int ((List.range (k + 1)).map g) := by
  rw [List.range_succ, List.map_append, List.map_append]; rfl
theorem lst_1 {a : Int} : D.lst [D.int a] = D.lst (List.map D.int [a]) := rfl
theorem lst_2 {a b : Int} : D.lst [D.int a, D.int b] = D.lst (List.map D.int [a, b]) := rfl
theorem lst_3 {a b c : Int} : D.lst [D.int a, D.int b, D.int c] = D.lst (List.map D.int [a, b, c]) := rfl
end
end Lw

namespace Tst
open PySem L2 PyProof.Rows Lw
def topS (i : Nat) : Stmt := PySem.Challenge.pw_lampcrossings_k01_beats_joined.main.body.getD i (.Pass ⟨0, 0, 0, 0⟩)
abbrev s_is_length : Stmt := topS 9
theorem sc_is_length : FnScope ["length"] ["length"] (defScope s_is_length) := ⟨rfl, rfl, rfl, by decide +kernel, rfl, by decide +kernel, by decide +kernel⟩
abbrev s_check_length : Stmt := topS 10
theorem sc_check_length : FnScope ["length"] ["length"] (defScope s_check_length) := ⟨rfl, rfl, rfl, by decide +kernel, rfl, by decide +kernel, by decide +kernel⟩
abbrev s_check_same : Stmt := topS 11
theorem sc_check_same : FnScope ["one", "other"] ["one", "other"] (defScope s_check_same) := ⟨rfl, rfl, rfl, by decide +kernel, rfl, by decide +kernel, by decide +kernel⟩
abbrev s_turned_bits : Stmt := topS 12
theorem sc_turned_bits : FnScope ["bits", "shift", "length", "every_bit"] ["bits", "shift", "length"] (defScope s_turned_bits) := ⟨rfl, rfl, rfl, by decide +kernel, rfl, by decide +kernel, by decide +kernel⟩
abbrev s_from_bits : Stmt := topS 13
theorem sc_from_bits : FnScope ["length", "bits", "beat"] ["length", "bits"] (defScope s_from_bits) := ⟨rfl, rfl, rfl, by decide +kernel, rfl, by decide +kernel, by decide +kernel⟩
abbrev s_Beats_init : Stmt := inClass (topS 14) 0
theorem sc_Beats_init : FnScope ["self", "length", "members", "bits", "number", "beat"] ["self", "length", "members"] (defScope s_Beats_init) := ⟨rfl, rfl, rfl, by decide +kernel, rfl, by decide +kernel, by decide +kernel⟩
abbrev s_Beats_len : Stmt := inClass (topS 14) 4
theorem sc_Beats_len : FnScope ["self"] ["self"] (defScope s_Beats_len) := ⟨rfl, rfl, rfl, by decide +kernel, rfl, by decide +kernel, by decide +kernel⟩
abbrev s_Beats_iter : Stmt := inClass (topS 14) 5
theorem sc_Beats_iter : FnScope ["self"] ["self"] (defScope s_Beats_iter) := ⟨rfl, rfl, rfl, by decide +kernel, rfl, by decide +kernel, by decide +kernel⟩
abbrev s_Beats_contains : Stmt := inClass (topS 14) 6
theorem sc_Beats_contains : FnScope ["self", "number"] ["self", "number"] (defScope s_Beats_contains) := ⟨rfl, rfl, rfl, by decide +kernel, rfl, by decide +kernel, by decide +kernel⟩
abbrev s_Beats_bool : Stmt := inClass (topS 14) 7
theorem sc_Beats_bool : FnScope ["self"] ["self"] (defScope s_Beats_bool) := ⟨rfl, rfl, rfl, by decide +kernel, rfl, by decide +kernel, by decide +kernel⟩
abbrev s_Beats_eq : Stmt := inClass (topS 14) 8
theorem sc_Beats_eq : FnScope ["self", "other"] ["self", "other"] (defScope s_Beats_eq) := ⟨rfl, rfl, rfl, by decide +kernel, rfl, by decide +kernel, by decide +kernel⟩
abbrev s_Beats_within : Stmt := inClass (topS 14) 9
theorem sc_Beats_within : FnScope ["self", "other"] ["self", "other"] (defScope s_Beats_within) := ⟨rfl, rfl, rfl, by decide +kernel, rfl, by decide +kernel, by decide +kernel⟩
abbrev s_Beats_or : Stmt := inClass (topS 14) 10
theorem sc_Beats_or : FnScope ["self", "other"] ["self", "other"] (defScope s_Beats_or) := ⟨rfl, rfl, rfl, by decide +kernel, rfl, by decide +kernel, by decide +kernel⟩
abbrev s_Beats_and : Stmt := inClass (topS 14) 11
theorem sc_Beats_and : FnScope ["self", "other"] ["self", "other"] (defScope s_Beats_and) := ⟨rfl, rfl, rfl, by decide +kernel, rfl, by decide +kernel, by decide +kernel⟩
abbrev s_Beats_xor : Stmt := inClass (topS 14) 12
theorem sc_Beats_xor : FnScope ["self", "other"] ["self", "other"] (defScope s_Beats_xor) := ⟨rfl, rfl, rfl, by decide +kernel, rfl, by decide +kernel, by decide +kernel⟩
abbrev s_Beats_invert : Stmt := inClass (topS 14) 13
theorem sc_Beats_invert : FnScope ["self", "beat"] ["self"] (defScope s_Beats_invert) := ⟨rfl, rfl, rfl, by decide +kernel, rfl, by decide +kernel, by decide +kernel⟩
abbrev s_Beats_add : Stmt := inClass (topS 14) 14
theorem sc_Beats_add : FnScope ["self", "other", "bits", "beat"] ["self", "other"] (defScope s_Beats_add) := ⟨rfl, rfl, rfl, by decide +kernel, rfl, by decide +kernel, by decide +kernel⟩
abbrev s_Beats_neg : Stmt := inClass (topS 14) 15
theorem sc_Beats_neg : FnScope ["self", "beat"] ["self"] (defScope s_Beats_neg) := ⟨rfl, rfl, rfl, by decide +kernel, rfl, by decide +kernel, by decide +kernel⟩
abbrev s_Beats_sub : Stmt := inClass (topS 14) 16
theorem sc_Beats_sub : FnScope ["self", "other"] ["self", "other"] (defScope s_Beats_sub) := ⟨rfl, rfl, rfl, by decide +kernel, rfl, by decide +kernel, by decide +kernel⟩
abbrev s_law_cell : Stmt := topS 16
theorem sc_law_cell : FnScope ["script", "k"] ["script", "k"] (defScope s_law_cell) := ⟨rfl, rfl, rfl, by decide +kernel, rfl, by decide +kernel, by decide +kernel⟩
abbrev s_law_hand : Stmt := topS 17
theorem sc_law_hand : FnScope ["script", "k", "cell"] ["script", "k"] (defScope s_law_hand) := ⟨rfl, rfl, rfl, by decide +kernel, rfl, by decide +kernel, by decide +kernel⟩
abbrev s_law_take : Stmt := topS 18
theorem sc_law_take : FnScope ["hand", "many", "digit", "mixed"] ["hand", "many"] (defScope s_law_take) := ⟨rfl, rfl, rfl, by decide +kernel, rfl, by decide +kernel, by decide +kernel⟩
abbrev s_law_is_int : Stmt := topS 19
theorem sc_law_is_int : FnScope ["got"] ["got"] (defScope s_law_is_int) := ⟨rfl, rfl, rfl, by decide +kernel, rfl, by decide +kernel, by decide +kernel⟩
abbrev s_law_same : Stmt := topS 20
theorem sc_law_same : FnScope ["got", "due", "k"] ["got", "due"] (defScope s_law_same) := ⟨rfl, rfl, rfl, by decide +kernel, rfl, by decide +kernel, by decide +kernel⟩
abbrev s_law_members : Stmt := topS 21
theorem sc_law_members : FnScope ["hand", "length", "way", "begin", "count", "k", "x"] ["hand", "length"] (defScope s_law_members) := ⟨rfl, rfl, rfl, by decide +kernel, rfl, by decide +kernel, by decide +kernel⟩
abbrev s_law_joined : Stmt := topS 22
theorem sc_law_joined : FnScope ["sign", "one", "other"] ["sign", "one", "other"] (defScope s_law_joined) := ⟨rfl, rfl, rfl, by decide +kernel, rfl, by decide +kernel, by decide +kernel⟩
abbrev s_law_is_set : Stmt := topS 23
theorem sc_law_is_set : FnScope ["got", "length", "due"] ["got", "length", "due"] (defScope s_law_is_set) := ⟨rfl, rfl, rfl, by decide +kernel, rfl, by decide +kernel, by decide +kernel⟩
abbrev s_law_refused : Stmt := topS 24
theorem sc_law_refused : FnScope ["sign", "one", "other", "kinds", "e", "caught"] ["sign", "one", "other"] (defScope s_law_refused) := ⟨rfl, rfl, rfl, by decide +kernel, rfl, by decide +kernel, by decide +kernel⟩
abbrev s_law_all_refused : Stmt := topS 25
theorem sc_law_all_refused : FnScope ["one", "other", "sign"] ["one", "other"] (defScope s_law_all_refused) := ⟨rfl, rfl, rfl, by decide +kernel, rfl, by decide +kernel, by decide +kernel⟩
abbrev s_law_right : Stmt := topS 26
theorem sc_law_right : FnScope ["a", "b", "xs", "ys", "length", "either", "common", "single", "part", "t"] ["a", "b", "xs", "ys", "length"] (defScope s_law_right) := ⟨rfl, rfl, rfl, by decide +kernel, rfl, by decide +kernel, by decide +kernel⟩
abbrev s_law : Stmt := topS 27
theorem sc_law : FnScope ["script", "hand", "length", "unlike", "xs", "ys", "a", "b", "zs", "third", "t"] ["script"] (defScope s_law) := ⟨rfl, rfl, rfl, by decide +kernel, rfl, by decide +kernel, by decide +kernel⟩
abbrev blts : List Str := ["len", "abs", "int", "list", "tuple", "sorted", "range", "isinstance", "bool", "str", "iter", "max", "min", "ValueError", "enumerate", "zip", "sum", "any", "all", "dict", "set", "reversed", "repr"]
section
variable {P : Program} {w : World} {K : PySem.W.Frag} {mg : Str → Option Value} {base : Heap} {f : Addr} {fd : FuncData}
/-- a cell's number -/
def cCell : Ct (List Int × Int) where
  β := Int
  ar := fun (x1, x2) => [.im (.scr (x1.map D.int)), .im (.int x2)]
  ok := fun (x1, x2) => 0 ≤ x2
  rel := fun _ r => 0 ≤ r
  aft := fun (x1, x2) _ => [.im (.scr (x1.map D.int)), .im (.int x2)]
  out := fun _ r => .ret (.sc (.int r))
theorem ok_cell (hb : Blt mg blts) (F : Fun K "_law_cell" "_law_cell" s_law_cell f fd) : FnOk P w K mg base (L2.CX P w) 1 f fd ["script", "k"] (spC K cCell) := by
  (refine Lw.fn_okC F sc_law_cell (fun _ => rfl) fun ⟨ns, k⟩ cdv A outer s H E Z hk hr tk po => ?_; have hN := (sc_law_cell).nd)
  replace hk : 0 ≤ k := hk
  (focus (refine Lw.ss_norm (Γ' := [_, _]) rfl ?_; refine Lw.ss_cons ?_; refine Lw.sw_if ?_; refine Lw.tw_cmp L2.op_lt ?_; refine Lw.ew_var (i := 1) rfl (.inl rfl) rfl ?_; refine Lw.ew_callB L2.call_len_seq rfl (hb.get (by decide)) Lw.bb_len ?_; refine Lw.aw_cons ?_; refine Lw.ew_var (i := 0) rfl (.inl rfl) rfl ?_; refine Lw.aw_nil ?_; apply Exists.intro; apply Exists.intro; refine And.intro ?_ ?_; apply Lw.views_cons rfl; exact Lw.views_nil; refine And.intro ?_ ?_; exact Lw.on_lenC; apply Exists.intro; apply Exists.intro; apply Exists.intro; refine And.intro ?_ ?_; rfl; refine And.intro ?_ ?_; rfl; refine And.intro ?_ ?_; exact Lw.o2_lt; refine And.intro ?_ ?_; intro c1; simp only [List.length_map, decide_eq_true_eq] at c1; refine Lw.ss_cons ?_; refine Lw.sw_ret ?_; refine Lw.ew_callB L2.call_abs rfl (hb.get (by decide)) Lw.bb_abs ?_; refine Lw.aw_cons ?_; refine Lw.ew_ix L2.ix_seq ?_; refine Lw.ew_var (i := 0) rfl (.inl rfl) rfl ?_; refine Lw.ew_var (i := 1) rfl (.inl rfl) rfl ?_; apply Exists.intro; apply Exists.intro; apply Exists.intro; refine And.intro ?_ ?_; rfl; refine And.intro ?_ ?_; rfl; refine And.intro ?_ ?_; apply Lw.o2_ixC; apply Lw.atI_map; assumption; assumption; refine Lw.aw_nil ?_; apply Exists.intro; apply Exists.intro; refine And.intro ?_ ?_; apply Lw.views_cons rfl; exact Lw.views_nil; refine And.intro ?_ ?_; exact Lw.on_abs; apply Exists.intro; refine And.intro ?_ ?_; refine And.intro ?_ ?_; rfl; exact True.intro; dsimp only [Tst.cCell, Lw.Ct.det]; omega; intro c1; simp only [List.length_map, decide_eq_false_iff_not] at c1; refine Lw.ss_nil ?_; refine Lw.ss_cons ?_; refine Lw.sw_ret ?_; refine Lw.ew_int ?_; apply Exists.intro; refine And.intro ?_ ?_; refine And.intro ?_ ?_; rfl; exact True.intro; dsimp only [Tst.cCell, Lw.Ct.det]; omega))
/-- what is left to draw from -/
structure Hand where
  a : Int
  b : Int
  c : Int
  d : Int
def hd4 (h : Hand) : D := .lst [.int h.a, .int h.b, .int h.c, .int h.d]
theorem hd4_mk {a b c d : Int} : D.lst [.int a, .int b, .int c, .int d] = hd4 ⟨a, b, c, d⟩ := rfl
def cHand : Ct (List Int × Int) where
  β := Hand
  ar := fun (x1, x2) => [.im (.scr (x1.map D.int)), .im (.int x2)]
  ok := fun (x1, x2) => 0 ≤ x2
  rel := fun _ _ => True
  aft := fun (x1, x2) _ => [.im (.scr (x1.map D.int)), .im (.int x2)]
  out := fun _ h => .ret (.nw (hd4 h))
theorem ok_hand (hb : Blt mg blts) (F : Fun K "_law_hand" "_law_hand" s_law_hand f fd) (d1 : Def P w K mg base "_law_cell" 1 cCell) : FnOk P w K mg base (L2.CX P w) 2 f fd ["script", "k"] (spC K cHand) := by
  (refine Lw.fn_okC F sc_law_hand (fun _ => rfl) fun ⟨ns, k⟩ cdv A outer s H E Z hk hr tk po => ?_; have hN := (sc_law_hand).nd)
  replace hk : 0 ≤ k := hk
  (focus (refine Lw.ss_norm (Γ' := [_, _, _]) rfl ?_; refine Lw.ss_cons ?_; refine Lw.sw_set (i := 2) hN rfl (.inl rfl) ?_; refine Lw.ew_call d1 hr tk ?_; refine Lw.aw_cons ?_; refine Lw.ew_var (i := 0) rfl (.inl rfl) rfl ?_; refine Lw.aw_cons ?_; refine Lw.ew_var (i := 1) rfl (.inl rfl) rfl ?_; refine Lw.aw_nil ?_; apply Lw.callPost_2; refine And.intro ?_ ?_; refine And.intro ?_ ?_; (with_reducible rfl); refine And.intro ?_ ?_; (with_reducible rfl); exact True.intro; refine And.intro ?_ ?_; rfl; refine And.intro ?_ ?_; dsimp only [Tst.cCell, Lw.Ct.det]; assumption; intro v1; intro c1; dsimp only [Tst.cCell] at c1; refine And.intro ?_ ?_; rfl; refine Lw.outP_eq rfl ?_; refine Lw.ss_norm (Γ' := [_, _, _]) rfl ?_; refine Lw.ss_cons ?_; refine Lw.sw_ret ?_; refine Lw.ew_lst ?_; refine Lw.aw_cons ?_; refine Lw.ew_var (i := 2) rfl (.inl rfl) rfl ?_; refine Lw.aw_cons ?_; refine Lw.ew_callTy L2.call_int1 rfl (hb.get (by decide)) Lw.bb_int ?_; refine Lw.aw_cons ?_; refine Lw.ew_cmp L2.op_ge ?_; refine Lw.ew_var (i := 2) rfl (.inl rfl) rfl ?_; refine Lw.ew_op L2.op_pow ?_; refine Lw.ew_int ?_; refine Lw.ew_int ?_; apply Exists.intro; apply Exists.intro; apply Exists.intro; refine And.intro ?_ ?_; rfl; refine And.intro ?_ ?_; rfl; refine And.intro ?_ ?_; refine Lw.o2_powE (by unfold L2.CPow; decide) (by (simp only [Int.reduceToNat, Int.reducePow, Int.reduceAdd, Int.reduceSub, Int.reduceMul, Int.reduceNeg]; exact rfl)); apply Exists.intro; apply Exists.intro; apply Exists.intro; refine And.intro ?_ ?_; rfl; refine And.intro ?_ ?_; rfl; refine And.intro ?_ ?_; exact Lw.o2_ge; refine Lw.aw_nil ?_; apply Exists.intro; apply Exists.intro; refine And.intro ?_ ?_; apply Lw.views_cons rfl; exact Lw.views_nil; refine And.intro ?_ ?_; exact Lw.on_intB; refine Lw.aw_cons ?_; refine Lw.ew_int ?_; refine Lw.aw_cons ?_; refine Lw.ew_op (Lw.opr_or L2.op_add L2.op_cat) ?_; refine Lw.ew_op L2.op_mod ?_; refine Lw.ew_callTy L2.call_int1 rfl (hb.get (by decide)) Lw.bb_int ?_; refine Lw.aw_cons ?_; refine Lw.ew_var (i := 2) rfl (.inl rfl) rfl ?_; refine Lw.aw_nil ?_; apply Exists.intro; apply Exists.intro; refine And.intro ?_ ?_; apply Lw.views_cons rfl; exact Lw.views_nil; refine And.intro ?_ ?_; exact Lw.on_int; refine Lw.ew_int ?_; apply Exists.intro; apply Exists.intro; apply Exists.intro; refine And.intro ?_ ?_; rfl; refine And.intro ?_ ?_; rfl; refine And.intro ?_ ?_; refine Lw.o2_mod ?_; omega; refine Lw.ew_op (Lw.opr_or L2.op_mul L2.op_rep) ?_; refine Lw.ew_int ?_; refine Lw.ew_var (i := 1) rfl (.inl rfl) rfl ?_; apply Exists.intro; apply Exists.intro; apply Exists.intro; refine And.intro ?_ ?_; rfl; refine And.intro ?_ ?_; rfl; refine And.intro ?_ ?_; refine Lw.o2_l (Lw.o2_mul ?_); (unfold L2.CMul; omega); apply Exists.intro; apply Exists.intro; apply Exists.intro; refine And.intro ?_ ?_; rfl; refine And.intro ?_ ?_; rfl; refine And.intro ?_ ?_; exact Lw.o2_l Lw.o2_add; refine Lw.aw_nil ?_; refine And.intro ?_ ?_; (simp only [List.length_map, List.length_append, List.length_nil, List.length_cons, List.length_set, List.length_replicate, List.length_range, List.length_take, List.length_reverse]; omega); apply Exists.intro; refine And.intro ?_ ?_; refine And.intro ?_ ?_; (apply Or.inl; apply Lw.new_eq); exact hd4_mk; exact True.intro; exact True.intro))
/-- a draw: any number below the bound -/
def cTake : Ct (Hand × Int) where
  β := Int × Hand
  ar := fun (h, m) => [.mu (hd4 h), .im (.int m)]
  ok := fun (h, m) => 0 < m ∧ m < 1073741824
  rel := fun (h, m) (r, h') => 0 ≤ r ∧ r < m
  aft := fun (h, m) (r, h') => [.mu (hd4 h'), .im (.int m)]
  out := fun _ (r, h') => .ret (.sc (.int r))
theorem ok_take (hb : Blt mg blts) (F : Fun K "_law_take" "_law_take" s_law_take f fd) : FnOk P w K mg base (L2.CX P w) 1 f fd ["hand", "many"] (spC K cTake) := by
  (refine Lw.fn_okC F sc_law_take (fun _ => rfl) fun ⟨⟨a, b, c, d⟩, m⟩ cdv A outer s H E Z ⟨hk1, hk2⟩ hr tk po => ?_; have hN := (sc_law_take).nd)
  replace hk1 : 0 < m := hk1
  replace hk2 : m < 1073741824 := hk2
  (focus (refine Lw.ss_norm (Γ' := [_, _, _, _]) rfl ?_; refine Lw.ss_cons ?_; refine Lw.sw_if ?_; refine Lw.tw_pw ?_; refine Lw.ww_and ?_; refine Lw.tw_cmp (Lw.opr_or L2.op_eq (L2.op_eqD hr.units)) ?_; refine Lw.ew_ix L2.ix_seq ?_; refine Lw.ew_var (i := 0) rfl (.inl rfl) rfl ?_; refine Lw.ew_int ?_; apply Exists.intro; apply Exists.intro; apply Exists.intro; refine And.intro ?_ ?_; rfl; refine And.intro ?_ ?_; rfl; refine And.intro ?_ ?_; apply Lw.o2_ixL; dsimp only; apply Lw.atI_mapN (ns := [a, b, c, d]) 4 rfl; omega; omega; refine Lw.ew_int ?_; apply Exists.intro; apply Exists.intro; apply Exists.intro; refine And.intro ?_ ?_; rfl; refine And.intro ?_ ?_; rfl; refine And.intro ?_ ?_; exact Lw.o2_l Lw.o2_eqI; refine And.intro ?_ ?_; intro c1; simp only [decide_eq_true_eq] at c1; refine Lw.ww_and1 ?_; refine Lw.tw_cmp L2.op_gt ?_; refine Lw.ew_ix L2.ix_seq ?_; refine Lw.ew_var (i := 0) rfl (.inl rfl) rfl ?_; refine Lw.ew_int ?_; apply Exists.intro; apply Exists.intro; apply Exists.intro; refine And.intro ?_ ?_; rfl; refine And.intro ?_ ?_; rfl; refine And.intro ?_ ?_; apply Lw.o2_ixL; dsimp only; apply Lw.atI_mapN (ns := [a, b, c, d]) 4 rfl; omega; omega; refine Lw.ew_int ?_; apply Exists.intro; apply Exists.intro; apply Exists.intro; refine And.intro ?_ ?_; rfl; refine And.intro ?_ ?_; rfl; refine And.intro ?_ ?_; exact Lw.o2_gt; refine And.intro ?_ ?_; intro c2; simp only [decide_eq_true_eq] at c2; refine Lw.ss_cons ?_; refine Lw.sw_set (i := 2) hN rfl (.inl rfl) ?_; refine Lw.ew_op L2.op_mod ?_; refine Lw.ew_callTy L2.call_int1 rfl (hb.get (by decide)) Lw.bb_int ?_; refine Lw.aw_cons ?_; refine Lw.ew_ix L2.ix_seq ?_; refine Lw.ew_var (i := 0) rfl (.inl rfl) rfl ?_; refine Lw.ew_int ?_; apply Exists.intro; apply Exists.intro; apply Exists.intro; refine And.intro ?_ ?_; rfl; refine And.intro ?_ ?_; rfl; refine And.intro ?_ ?_; apply Lw.o2_ixL; dsimp only; apply Lw.atI_mapN (ns := [a, b, c, d]) 4 rfl; omega; omega; refine Lw.aw_nil ?_; apply Exists.intro; apply Exists.intro; refine And.intro ?_ ?_; apply Lw.views_cons rfl; exact Lw.views_nil; refine And.intro ?_ ?_; exact Lw.on_int; refine Lw.ew_var (i := 1) rfl (.inl rfl) rfl ?_; apply Exists.intro; apply Exists.intro; apply Exists.intro; refine And.intro ?_ ?_; rfl; refine And.intro ?_ ?_; rfl; refine And.intro ?_ ?_; refine Lw.o2_mod ?_; assumption; refine Lw.ss_norm (Γ' := [_, _, _, _]) rfl ?_; refine Lw.ss_cons ?_; refine Lw.sw_setix ?_; refine Lw.ew_op L2.op_fdiv ?_; refine Lw.ew_ix L2.ix_seq ?_; refine Lw.ew_var (i := 0) rfl (.inl rfl) rfl ?_; refine Lw.ew_int ?_; apply Exists.intro; apply Exists.intro; apply Exists.intro; refine And.intro ?_ ?_; rfl; refine And.intro ?_ ?_; rfl; refine And.intro ?_ ?_; apply Lw.o2_ixL; dsimp only; apply Lw.atI_mapN (ns := [a, b, c, d]) 4 rfl; omega; omega; refine Lw.ew_var (i := 1) rfl (.inl rfl) rfl ?_; apply Exists.intro; apply Exists.intro; apply Exists.intro; refine And.intro ?_ ?_; rfl; refine And.intro ?_ ?_; rfl; refine And.intro ?_ ?_; refine Lw.o2_fdiv ?_; assumption; refine Lw.ew_var (i := 0) rfl (.inl rfl) rfl ?_; apply Exists.intro; refine And.intro ?_ ?_; rfl; refine Lw.ew_int ?_; apply Exists.intro; apply Exists.intro; apply Exists.intro; refine And.intro ?_ ?_; exact Lw.owns_pw rfl; refine And.intro ?_ ?_; rfl; refine And.intro ?_ ?_; dsimp only; apply Lw.ixN_of; omega; (simp only [List.length_map, List.length_append, List.length_nil, List.length_cons, List.length_set, List.length_replicate, List.length_range, List.length_take, List.length_reverse]; omega); refine Lw.ss_norm (Γ' := [_, _, _, _]) rfl ?_; refine Lw.ss_cons ?_; refine Lw.sw_ret ?_; refine Lw.ew_var (i := 2) rfl (.inl rfl) rfl ?_; apply Lw.ex_2; refine And.intro ?_ ?_; refine And.intro ?_ ?_; (with_reducible rfl); refine And.intro ?_ ?_; refine Lw.pw_eq ?_; dsimp only; exact hd4_mk; exact True.intro; refine And.intro ?_ ?_; (show _; rotate_left); (show _; rotate_left); intro c2; simp only [decide_eq_false_iff_not] at c2; refine Lw.ss_nil ?_; refine Lw.ss_cons ?_; refine Lw.sw_setix ?_; refine Lw.ew_op (Lw.opr_or L2.op_add L2.op_cat) ?_; refine Lw.ew_ix L2.ix_seq ?_; refine Lw.ew_var (i := 0) rfl (.inl rfl) rfl ?_; refine Lw.ew_int ?_; apply Exists.intro; apply Exists.intro; apply Exists.intro; refine And.intro ?_ ?_; rfl; refine And.intro ?_ ?_; rfl; refine And.intro ?_ ?_; apply Lw.o2_ixL; dsimp only; apply Lw.atI_mapN (ns := [a, b, c, d]) 4 rfl; omega; omega; refine Lw.ew_int ?_; apply Exists.intro; apply Exists.intro; apply Exists.intro; refine And.intro ?_ ?_; rfl; refine And.intro ?_ ?_; rfl; refine And.intro ?_ ?_; exact Lw.o2_l Lw.o2_add; refine Lw.ew_var (i := 0) rfl (.inl rfl) rfl ?_; apply Exists.intro; refine And.intro ?_ ?_; rfl; refine Lw.ew_int ?_; apply Exists.intro; apply Exists.intro; apply Exists.intro; refine And.intro ?_ ?_; exact Lw.owns_pw rfl; refine And.intro ?_ ?_; rfl; refine And.intro ?_ ?_; dsimp only; apply Lw.ixN_of; omega; (simp only [List.length_map, List.length_append, List.length_nil, List.length_cons, List.length_set, List.length_replicate, List.length_range, List.length_take, List.length_reverse]; omega); refine Lw.ss_norm (Γ' := [_, _, _, _]) rfl ?_; refine Lw.ss_cons ?_; refine Lw.sw_set (i := 3) hN rfl (.inl rfl) ?_; refine Lw.ew_op L2.op_mod ?_; refine Lw.ew_callTy L2.call_int1 rfl (hb.get (by decide)) Lw.bb_int ?_; refine Lw.aw_cons ?_; refine Lw.ew_op (Lw.opr_or L2.op_add L2.op_cat) ?_; refine Lw.ew_op (Lw.opr_or L2.op_add L2.op_cat) ?_; refine Lw.ew_op (Lw.opr_or L2.op_mul L2.op_rep) ?_; refine Lw.ew_ix L2.ix_seq ?_; refine Lw.ew_var (i := 0) rfl (.inl rfl) rfl ?_; refine Lw.ew_int ?_; apply Exists.intro; apply Exists.intro; apply Exists.intro; refine And.intro ?_ ?_; dsimp only; rfl; refine And.intro ?_ ?_; dsimp only; rfl; refine And.intro ?_ ?_; apply Lw.o2_ixL; apply Lw.atI_mapN (ns := [a, b, [a, b, c, d].getD (Int.toNat 2) 0 + 1, d]) 4 rfl; omega; omega; refine Lw.ew_int ?_; apply Exists.intro; apply Exists.intro; apply Exists.intro; refine And.intro ?_ ?_; dsimp only; rfl; refine And.intro ?_ ?_; dsimp only; rfl; refine And.intro ?_ ?_; refine Lw.o2_l (Lw.o2_mul ?_); (unfold L2.CMul; omega); refine Lw.ew_op (Lw.opr_or L2.op_mul L2.op_rep) ?_; refine Lw.ew_ix L2.ix_seq ?_; refine Lw.ew_var (i := 0) rfl (.inl rfl) rfl ?_; refine Lw.ew_int ?_; apply Exists.intro; apply Exists.intro; apply Exists.intro; refine And.intro ?_ ?_; dsimp only; rfl; refine And.intro ?_ ?_; dsimp only; rfl; refine And.intro ?_ ?_; apply Lw.o2_ixL; apply Lw.atI_mapN (ns := [a, b, [a, b, c, d].getD (Int.toNat 2) 0 + 1, d]) 4 rfl; omega; omega; refine Lw.ew_int ?_; apply Exists.intro; apply Exists.intro; apply Exists.intro; refine And.intro ?_ ?_; dsimp only; rfl; refine And.intro ?_ ?_; dsimp only; rfl; refine And.intro ?_ ?_; refine Lw.o2_l (Lw.o2_mul ?_); (unfold L2.CMul; omega); apply Exists.intro; apply Exists.intro; apply Exists.intro; refine And.intro ?_ ?_; dsimp only; rfl; refine And.intro ?_ ?_; dsimp only; rfl; refine And.intro ?_ ?_; exact Lw.o2_l Lw.o2_add; refine Lw.ew_int ?_; apply Exists.intro; apply Exists.intro; apply Exists.intro; refine And.intro ?_ ?_; dsimp only; rfl; refine And.intro ?_ ?_; dsimp only; rfl; refine And.intro ?_ ?_; exact Lw.o2_l Lw.o2_add; refine Lw.aw_nil ?_; apply Exists.intro; apply Exists.intro; refine And.intro ?_ ?_; apply Lw.views_cons rfl; exact Lw.views_nil; refine And.intro ?_ ?_; exact Lw.on_int; refine Lw.ew_int ?_; apply Exists.intro; apply Exists.intro; apply Exists.intro; refine And.intro ?_ ?_; dsimp only; rfl; refine And.intro ?_ ?_; dsimp only; rfl; refine And.intro ?_ ?_; refine Lw.o2_mod ?_; omega; refine Lw.ss_norm (Γ' := [_, _, _, _]) rfl ?_; refine Lw.ss_cons ?_; refine Lw.sw_set (i := 3) hN rfl (.inl rfl) ?_; refine Lw.ew_op L2.op_mod ?_; refine Lw.ew_callTy L2.call_int1 rfl (hb.get (by decide)) Lw.bb_int ?_; refine Lw.aw_cons ?_; refine Lw.ew_op (Lw.opr_or L2.op_add L2.op_cat) ?_; refine Lw.ew_op (Lw.opr_or L2.op_add L2.op_cat) ?_; refine Lw.ew_op (Lw.opr_or L2.op_mul L2.op_rep) ?_; refine Lw.ew_var (i := 3) rfl (.inl rfl) rfl ?_; refine Lw.ew_var (i := 3) rfl (.inl rfl) rfl ?_; apply Exists.intro; apply Exists.intro; apply Exists.intro; refine And.intro ?_ ?_; dsimp only; rfl; refine And.intro ?_ ?_; dsimp only; rfl; refine And.intro ?_ ?_; refine Lw.o2_l (Lw.o2_mul ?_); (unfold L2.CMul; omega); refine Lw.ew_op (Lw.opr_or L2.op_mul L2.op_rep) ?_; refine Lw.ew_ix L2.ix_seq ?_; refine Lw.ew_var (i := 0) rfl (.inl rfl) rfl ?_; refine Lw.ew_int ?_; apply Exists.intro; apply Exists.intro; apply Exists.intro; refine And.intro ?_ ?_; dsimp only; rfl; refine And.intro ?_ ?_; dsimp only; rfl; refine And.intro ?_ ?_; apply Lw.o2_ixL; apply Lw.atI_mapN (ns := [a, b, [a, b, c, d].getD (Int.toNat 2) 0 + 1, d]) 4 rfl; omega; omega; refine Lw.ew_int ?_; apply Exists.intro; apply Exists.intro; apply Exists.intro; refine And.intro ?_ ?_; dsimp only; rfl; refine And.intro ?_ ?_; dsimp only; rfl; refine And.intro ?_ ?_; refine Lw.o2_l (Lw.o2_mul ?_); (unfold L2.CMul; omega); apply Exists.intro; apply Exists.intro; apply Exists.intro; refine And.intro ?_ ?_; dsimp only; rfl; refine And.intro ?_ ?_; dsimp only; rfl; refine And.intro ?_ ?_; exact Lw.o2_l Lw.o2_add; refine Lw.ew_int ?_; apply Exists.intro; apply Exists.intro; apply Exists.intro; refine And.intro ?_ ?_; dsimp only; rfl; refine And.intro ?_ ?_; dsimp only; rfl; refine And.intro ?_ ?_; exact Lw.o2_l Lw.o2_add; refine Lw.aw_nil ?_; apply Exists.intro; apply Exists.intro; refine And.intro ?_ ?_; apply Lw.views_cons rfl; exact Lw.views_nil; refine And.intro ?_ ?_; exact Lw.on_int; refine Lw.ew_int ?_; apply Exists.intro; apply Exists.intro; apply Exists.intro; refine And.intro ?_ ?_; dsimp only; rfl; refine And.intro ?_ ?_; dsimp only; rfl; refine And.intro ?_ ?_; refine Lw.o2_mod ?_; omega; refine Lw.ss_norm (Γ' := [_, _, _, _]) rfl ?_; refine Lw.ss_cons ?_; refine Lw.sw_set (i := 3) hN rfl (.inl rfl) ?_; refine Lw.ew_op L2.op_mod ?_; refine Lw.ew_callTy L2.call_int1 rfl (hb.get (by decide)) Lw.bb_int ?_; refine Lw.aw_cons ?_; refine Lw.ew_op (Lw.opr_or L2.op_add L2.op_cat) ?_; refine Lw.ew_op (Lw.opr_or L2.op_mul L2.op_rep) ?_; refine Lw.ew_var (i := 3) rfl (.inl rfl) rfl ?_; refine Lw.ew_var (i := 3) rfl (.inl rfl) rfl ?_; apply Exists.intro; apply Exists.intro; apply Exists.intro; refine And.intro ?_ ?_; dsimp only; rfl; refine And.intro ?_ ?_; dsimp only; rfl; refine And.intro ?_ ?_; refine Lw.o2_l (Lw.o2_mul ?_); (unfold L2.CMul; omega); refine Lw.ew_op L2.op_fdiv ?_; refine Lw.ew_var (i := 3) rfl (.inl rfl) rfl ?_; refine Lw.ew_int ?_; apply Exists.intro; apply Exists.intro; apply Exists.intro; refine And.intro ?_ ?_; dsimp only; rfl; refine And.intro ?_ ?_; dsimp only; rfl; refine And.intro ?_ ?_; refine Lw.o2_fdiv ?_; (unfold L2.CDiv; omega); apply Exists.intro; apply Exists.intro; apply Exists.intro; refine And.intro ?_ ?_; dsimp only; rfl; refine And.intro ?_ ?_; dsimp only; rfl; refine And.intro ?_ ?_; exact Lw.o2_l Lw.o2_add; refine Lw.aw_nil ?_; apply Exists.intro; apply Exists.intro; refine And.intro ?_ ?_; apply Lw.views_cons rfl; exact Lw.views_nil; refine And.intro ?_ ?_; exact Lw.on_int; refine Lw.ew_int ?_; apply Exists.intro; apply Exists.intro; apply Exists.intro; refine And.intro ?_ ?_; dsimp only; rfl; refine And.intro ?_ ?_; dsimp only; rfl; refine And.intro ?_ ?_; refine Lw.o2_mod ?_; omega; refine Lw.ss_norm (Γ' := [_, _, _, _]) rfl ?_; refine Lw.ss_cons ?_; refine Lw.sw_ret ?_; refine Lw.ew_op L2.op_mod ?_; refine Lw.ew_callTy L2.call_int1 rfl (hb.get (by decide)) Lw.bb_int ?_; refine Lw.aw_cons ?_; refine Lw.ew_op L2.op_fdiv ?_; refine Lw.ew_var (i := 3) rfl (.inl rfl) rfl ?_; refine Lw.ew_int ?_; apply Exists.intro; apply Exists.intro; apply Exists.intro; refine And.intro ?_ ?_; dsimp only; rfl; refine And.intro ?_ ?_; dsimp only; rfl; refine And.intro ?_ ?_; refine Lw.o2_fdiv ?_; (unfold L2.CDiv; omega); refine Lw.aw_nil ?_; apply Exists.intro; apply Exists.intro; refine And.intro ?_ ?_; apply Lw.views_cons rfl; exact Lw.views_nil; refine And.intro ?_ ?_; exact Lw.on_int; refine Lw.ew_var (i := 1) rfl (.inl rfl) rfl ?_; apply Exists.intro; apply Exists.intro; apply Exists.intro; refine And.intro ?_ ?_; dsimp only; rfl; refine And.intro ?_ ?_; dsimp only; rfl; refine And.intro ?_ ?_; refine Lw.o2_mod ?_; assumption; apply Lw.ex_2; refine And.intro ?_ ?_; refine And.intro ?_ ?_; (with_reducible rfl); refine And.intro ?_ ?_; refine Lw.pw_eq ?_; dsimp only; exact hd4_mk; exact True.intro; refine And.intro ?_ ?_; (show _; rotate_left); (show _; rotate_left); intro c1; simp only [decide_eq_false_iff_not] at c1; refine And.intro ?_ ?_; intro c2; simp only [Bool.false_eq_true] at c2; intro c2; simp only at c2; refine Lw.ss_nil ?_; refine Lw.ss_cons ?_; refine Lw.sw_setix ?_; refine Lw.ew_op (Lw.opr_or L2.op_add L2.op_cat) ?_; refine Lw.ew_ix L2.ix_seq ?_; refine Lw.ew_var (i := 0) rfl (.inl rfl) rfl ?_; refine Lw.ew_int ?_; apply Exists.intro; apply Exists.intro; apply Exists.intro; refine And.intro ?_ ?_; rfl; refine And.intro ?_ ?_; rfl; refine And.intro ?_ ?_; apply Lw.o2_ixL; dsimp only; apply Lw.atI_mapN (ns := [a, b, c, d]) 4 rfl; omega; omega; refine Lw.ew_int ?_; apply Exists.intro; apply Exists.intro; apply Exists.intro; refine And.intro ?_ ?_; rfl; refine And.intro ?_ ?_; rfl; refine And.intro ?_ ?_; exact Lw.o2_l Lw.o2_add; refine Lw.ew_var (i := 0) rfl (.inl rfl) rfl ?_; apply Exists.intro; refine And.intro ?_ ?_; rfl; refine Lw.ew_int ?_; apply Exists.intro; apply Exists.intro; apply Exists.intro; refine And.intro ?_ ?_; exact Lw.owns_pw rfl; refine And.intro ?_ ?_; rfl; refine And.intro ?_ ?_; dsimp only; apply Lw.ixN_of; omega; (simp only [List.length_map, List.length_append, List.length_nil, List.length_cons, List.length_set, List.length_replicate, List.length_range, List.length_take, List.length_reverse]; omega); refine Lw.ss_norm (Γ' := [_, _, _, _]) rfl ?_; refine Lw.ss_cons ?_; refine Lw.sw_set (i := 3) hN rfl (.inl rfl) ?_; refine Lw.ew_op L2.op_mod ?_; refine Lw.ew_callTy L2.call_int1 rfl (hb.get (by decide)) Lw.bb_int ?_; refine Lw.aw_cons ?_; refine Lw.ew_op (Lw.opr_or L2.op_add L2.op_cat) ?_; refine Lw.ew_op (Lw.opr_or L2.op_add L2.op_cat) ?_; refine Lw.ew_op (Lw.opr_or L2.op_mul L2.op_rep) ?_; refine Lw.ew_ix L2.ix_seq ?_; refine Lw.ew_var (i := 0) rfl (.inl rfl) rfl ?_; refine Lw.ew_int ?_; apply Exists.intro; apply Exists.intro; apply Exists.intro; refine And.intro ?_ ?_; dsimp only; rfl; refine And.intro ?_ ?_; dsimp only; rfl; refine And.intro ?_ ?_; apply Lw.o2_ixL; apply Lw.atI_mapN (ns := [a, b, [a, b, c, d].getD (Int.toNat 2) 0 + 1, d]) 4 rfl; omega; omega; refine Lw.ew_int ?_; apply Exists.intro; apply Exists.intro; apply Exists.intro; refine And.intro ?_ ?_; dsimp only; rfl; refine And.intro ?_ ?_; dsimp only; rfl; refine And.intro ?_ ?_; refine Lw.o2_l (Lw.o2_mul ?_); (unfold L2.CMul; omega); refine Lw.ew_op (Lw.opr_or L2.op_mul L2.op_rep) ?_; refine Lw.ew_ix L2.ix_seq ?_; refine Lw.ew_var (i := 0) rfl (.inl rfl) rfl ?_; refine Lw.ew_int ?_; apply Exists.intro; apply Exists.intro; apply Exists.intro; refine And.intro ?_ ?_; dsimp only; rfl; refine And.intro ?_ ?_; dsimp only; rfl; refine And.intro ?_ ?_; apply Lw.o2_ixL; apply Lw.atI_mapN (ns := [a, b, [a, b, c, d].getD (Int.toNat 2) 0 + 1, d]) 4 rfl; omega; omega; refine Lw.ew_int ?_; apply Exists.intro; apply Exists.intro; apply Exists.intro; refine And.intro ?_ ?_; dsimp only; rfl; refine And.intro ?_ ?_; dsimp only; rfl; refine And.intro ?_ ?_; refine Lw.o2_l (Lw.o2_mul ?_); (unfold L2.CMul; omega); apply Exists.intro; apply Exists.intro; apply Exists.intro; refine And.intro ?_ ?_; dsimp only; rfl; refine And.intro ?_ ?_; dsimp only; rfl; refine And.intro ?_ ?_; exact Lw.o2_l Lw.o2_add; refine Lw.ew_int ?_; apply Exists.intro; apply Exists.intro; apply Exists.intro; refine And.intro ?_ ?_; dsimp only; rfl; refine And.intro ?_ ?_; dsimp only; rfl; refine And.intro ?_ ?_; exact Lw.o2_l Lw.o2_add; refine Lw.aw_nil ?_; apply Exists.intro; apply Exists.intro; refine And.intro ?_ ?_; apply Lw.views_cons rfl; exact Lw.views_nil; refine And.intro ?_ ?_; exact Lw.on_int; refine Lw.ew_int ?_; apply Exists.intro; apply Exists.intro; apply Exists.intro; refine And.intro ?_ ?_; dsimp only; rfl; refine And.intro ?_ ?_; dsimp only; rfl; refine And.intro ?_ ?_; refine Lw.o2_mod ?_; omega; refine Lw.ss_norm (Γ' := [_, _, _, _]) rfl ?_; refine Lw.ss_cons ?_; refine Lw.sw_set (i := 3) hN rfl (.inl rfl) ?_; refine Lw.ew_op L2.op_mod ?_; refine Lw.ew_callTy L2.call_int1 rfl (hb.get (by decide)) Lw.bb_int ?_; refine Lw.aw_cons ?_; refine Lw.ew_op (Lw.opr_or L2.op_add L2.op_cat) ?_; refine Lw.ew_op (Lw.opr_or L2.op_add L2.op_cat) ?_; refine Lw.ew_op (Lw.opr_or L2.op_mul L2.op_rep) ?_; refine Lw.ew_var (i := 3) rfl (.inl rfl) rfl ?_; refine Lw.ew_var (i := 3) rfl (.inl rfl) rfl ?_; apply Exists.intro; apply Exists.intro; apply Exists.intro; refine And.intro ?_ ?_; dsimp only; rfl; refine And.intro ?_ ?_; dsimp only; rfl; refine And.intro ?_ ?_; refine Lw.o2_l (Lw.o2_mul ?_); (unfold L2.CMul; omega); refine Lw.ew_op (Lw.opr_or L2.op_mul L2.op_rep) ?_; refine Lw.ew_ix L2.ix_seq ?_; refine Lw.ew_var (i := 0) rfl (.inl rfl) rfl ?_; refine Lw.ew_int ?_; apply Exists.intro; apply Exists.intro; apply Exists.intro; refine And.intro ?_ ?_; dsimp only; rfl; refine And.intro ?_ ?_; dsimp only; rfl; refine And.intro ?_ ?_; apply Lw.o2_ixL; apply Lw.atI_mapN (ns := [a, b, [a, b, c, d].getD (Int.toNat 2) 0 + 1, d]) 4 rfl; omega; omega; refine Lw.ew_int ?_; apply Exists.intro; apply Exists.intro; apply Exists.intro; refine And.intro ?_ ?_; dsimp only; rfl; refine And.intro ?_ ?_; dsimp only; rfl; refine And.intro ?_ ?_; refine Lw.o2_l (Lw.o2_mul ?_); (unfold L2.CMul; omega); apply Exists.intro; apply Exists.intro; apply Exists.intro; refine And.intro ?_ ?_; dsimp only; rfl; refine And.intro ?_ ?_; dsimp only; rfl; refine And.intro ?_ ?_; exact Lw.o2_l Lw.o2_add; refine Lw.ew_int ?_; apply Exists.intro; apply Exists.intro; apply Exists.intro; refine And.intro ?_ ?_; dsimp only; rfl; refine And.intro ?_ ?_; dsimp only; rfl; refine And.intro ?_ ?_; exact Lw.o2_l Lw.o2_add; refine Lw.aw_nil ?_; apply Exists.intro; apply Exists.intro; refine And.intro ?_ ?_; apply Lw.views_cons rfl; exact Lw.views_nil; refine And.intro ?_ ?_; exact Lw.on_int; refine Lw.ew_int ?_; apply Exists.intro; apply Exists.intro; apply Exists.intro; refine And.intro ?_ ?_; dsimp only; rfl; refine And.intro ?_ ?_; dsimp only; rfl; refine And.intro ?_ ?_; refine Lw.o2_mod ?_; omega; refine Lw.ss_norm (Γ' := [_, _, _, _]) rfl ?_; refine Lw.ss_cons ?_; refine Lw.sw_set (i := 3) hN rfl (.inl rfl) ?_; refine Lw.ew_op L2.op_mod ?_; refine Lw.ew_callTy L2.call_int1 rfl (hb.get (by decide)) Lw.bb_int ?_; refine Lw.aw_cons ?_; refine Lw.ew_op (Lw.opr_or L2.op_add L2.op_cat) ?_; refine Lw.ew_op (Lw.opr_or L2.op_mul L2.op_rep) ?_; refine Lw.ew_var (i := 3) rfl (.inl rfl) rfl ?_; refine Lw.ew_var (i := 3) rfl (.inl rfl) rfl ?_; apply Exists.intro; apply Exists.intro; apply Exists.intro; refine And.intro ?_ ?_; dsimp only; rfl; refine And.intro ?_ ?_; dsimp only; rfl; refine And.intro ?_ ?_; refine Lw.o2_l (Lw.o2_mul ?_); (unfold L2.CMul; omega); refine Lw.ew_op L2.op_fdiv ?_; refine Lw.ew_var (i := 3) rfl (.inl rfl) rfl ?_; refine Lw.ew_int ?_; apply Exists.intro; apply Exists.intro; apply Exists.intro; refine And.intro ?_ ?_; dsimp only; rfl; refine And.intro ?_ ?_; dsimp only; rfl; refine And.intro ?_ ?_; refine Lw.o2_fdiv ?_; (unfold L2.CDiv; omega); apply Exists.intro; apply Exists.intro; apply Exists.intro; refine And.intro ?_ ?_; dsimp only; rfl; refine And.intro ?_ ?_; dsimp only; rfl; refine And.intro ?_ ?_; exact Lw.o2_l Lw.o2_add; refine Lw.aw_nil ?_; apply Exists.intro; apply Exists.intro; refine And.intro ?_ ?_; apply Lw.views_cons rfl; exact Lw.views_nil; refine And.intro ?_ ?_; exact Lw.on_int; refine Lw.ew_int ?_; apply Exists.intro; apply Exists.intro; apply Exists.intro; refine And.intro ?_ ?_; dsimp only; rfl; refine And.intro ?_ ?_; dsimp only; rfl; refine And.intro ?_ ?_; refine Lw.o2_mod ?_; omega; refine Lw.ss_norm (Γ' := [_, _, _, _]) rfl ?_; refine Lw.ss_cons ?_; refine Lw.sw_ret ?_; refine Lw.ew_op L2.op_mod ?_; refine Lw.ew_callTy L2.call_int1 rfl (hb.get (by decide)) Lw.bb_int ?_; refine Lw.aw_cons ?_; refine Lw.ew_op L2.op_fdiv ?_; refine Lw.ew_var (i := 3) rfl (.inl rfl) rfl ?_; refine Lw.ew_int ?_; apply Exists.intro; apply Exists.intro; apply Exists.intro; refine And.intro ?_ ?_; dsimp only; rfl; refine And.intro ?_ ?_; dsimp only; rfl; refine And.intro ?_ ?_; refine Lw.o2_fdiv ?_; (unfold L2.CDiv; omega); refine Lw.aw_nil ?_; apply Exists.intro; apply Exists.intro; refine And.intro ?_ ?_; apply Lw.views_cons rfl; exact Lw.views_nil; refine And.intro ?_ ?_; exact Lw.on_int; refine Lw.ew_var (i := 1) rfl (.inl rfl) rfl ?_; apply Exists.intro; apply Exists.intro; apply Exists.intro; refine And.intro ?_ ?_; dsimp only; rfl; refine And.intro ?_ ?_; dsimp only; rfl; refine And.intro ?_ ?_; refine Lw.o2_mod ?_; assumption; apply Lw.ex_2; refine And.intro ?_ ?_; refine And.intro ?_ ?_; (with_reducible rfl); refine And.intro ?_ ?_; refine Lw.pw_eq ?_; dsimp only; exact hd4_mk; exact True.intro; refine And.intro ?_ ?_; (show _; rotate_left); (show _; rotate_left); (show _; rotate_left); (show _; rotate_left); (show _; rotate_left); (show _; rotate_left); (show _; rotate_left); (show _; rotate_left)))
  all_goals first | exact Int.emod_nonneg _ (by omega) | exact Int.emod_lt_of_pos _ hk1
end
section
variable {P : Program} {w : World} {K : PySem.W.Frag} {mg : Str → Option Value} {base : Heap} {f : Addr} {fd : FuncData} {C Eb : Addr}
def cIsLen : Ct Int := .det
  (ar := fun y => [.im (.int y)])
  (ok := fun _ => True)
  (aft := fun y => [.im (.int y)])
  (out := fun y => .ret (.sc (.bl (decide (1 ≤ y ∧ y ≤ 60)))))
theorem ok_is_length {tM : Tok} (hb : Blt mg blts) (F : Fun K "is_length" "is_length" s_is_length f fd) (zM : mg "MOST_BEATS" = some (.int 60 tM)) : FnOk P w K mg base (L2.CX P w) 1 f fd ["length"] (spC K cIsLen) := by
  (refine Lw.fn_okC F sc_is_length (fun _ => rfl) fun n cdv A outer s H E Z hk hr tk po => ?_; have hN := (sc_is_length).nd)
  (focus (refine Lw.ss_norm (Γ' := [_]) rfl ?_; refine Lw.ss_cons ?_; refine Lw.sw_ret ?_; refine Lw.ew_chain L2.op_le L2.op_le ?_; refine Lw.ew_int ?_; refine Lw.ew_var (i := 0) rfl (.inl rfl) rfl ?_; apply Exists.intro; apply Exists.intro; apply Exists.intro; refine And.intro ?_ ?_; rfl; refine And.intro ?_ ?_; rfl; refine And.intro ?_ ?_; exact Lw.o2_le; refine And.intro ?_ ?_; intro c1; simp only [decide_eq_false_iff_not] at c1; refine Exists.intro () ?_; refine And.intro ?_ ?_; refine And.intro ?_ ?_; (show _; rotate_left); exact True.intro; exact True.intro; intro c1; simp only [decide_eq_true_eq] at c1; refine Lw.ew_gint (by assumption) ?_; apply Exists.intro; apply Exists.intro; apply Exists.intro; refine And.intro ?_ ?_; rfl; refine And.intro ?_ ?_; rfl; refine And.intro ?_ ?_; exact Lw.o2_le; refine Exists.intro () ?_; refine And.intro ?_ ?_; refine And.intro ?_ ?_; (show _; rotate_left); exact True.intro; exact True.intro; (show _; rotate_left); (show _; rotate_left)))
  all_goals simp [*]
def cCheckOk : Ct Int := .det
  (ar := fun y => [.im (.int y)])
  (ok := fun y => 1 ≤ y ∧ y ≤ 60)
  (aft := fun y => [.im (.int y)])
  (out := fun _ => .ret (.sc .non))
def cCheckBad (Eb : Addr) : Ct Int := .det
  (ar := fun y => [.im (.int y)])
  (ok := fun y => y < 1 ∨ 60 < y)
  (aft := fun y => [.im (.int y)])
  (out := fun _ => .exc Eb [])
theorem ok_check_length (hb : Blt mg blts) (F : Fun K "check_length" "check_length" s_check_length f fd) (d1 : Def P w K mg base "is_length" 1 cIsLen) (e1 : Exc0 K mg "BadBeats" Eb) : FnOk P w K mg base (L2.CX P w) 2 f fd ["length"] (spC K cCheckOk) := by
  (refine Lw.fn_okC F sc_check_length (fun _ => rfl) fun n cdv A outer s H E Z hk hr tk po => ?_; have hN := (sc_check_length).nd)
  replace hk : 1 ≤ n ∧ n ≤ 60 := hk
  (focus (refine Lw.ss_norm (Γ' := [_]) rfl ?_; refine Lw.ss_cons ?_; refine Lw.sw_if ?_; refine Lw.tw_not ?_; refine Lw.tw_val ?_; refine Lw.ew_call d1 hr tk ?_; refine Lw.aw_cons ?_; refine Lw.ew_var (i := 0) rfl (.inl rfl) rfl ?_; refine Lw.aw_nil ?_; apply Lw.callPost_1; refine And.intro ?_ ?_; refine And.intro ?_ ?_; (with_reducible rfl); exact True.intro; refine And.intro ?_ ?_; rfl; refine And.intro ?_ ?_; exact True.intro; rintro ⟨⟩ -; refine And.intro ?_ ?_; rfl; refine Lw.outP_eq rfl ?_; apply Exists.intro; apply Exists.intro; refine And.intro ?_ ?_; rfl; refine And.intro ?_ ?_; rfl; refine And.intro ?_ ?_; intro c1; simp only [Bool.not_eq_true', decide_eq_false_iff_not] at c1; refine Lw.ss_norm (Γ' := [_]) rfl ?_; refine Lw.ss_cons ?_; refine Lw.sw_raise0 rfl tk (by assumption) ?_; refine Exists.intro () ?_; refine And.intro ?_ ?_; refine And.intro ?_ ?_; omega; exact True.intro; exact True.intro; intro c1; simp only [Bool.not_eq_false', decide_eq_true_eq] at c1; refine Lw.ss_norm (Γ' := [_]) rfl ?_; refine Lw.ss_nil ?_; refine Lw.ss_nil ?_; refine Exists.intro () ?_; refine And.intro ?_ ?_; refine And.intro ?_ ?_; (with_reducible rfl); exact True.intro; exact True.intro))
  all_goals (exfalso; omega)
theorem ok_check_lengthB (hb : Blt mg blts) (F : Fun K "check_length" "check_length" s_check_length f fd) (d1 : Def P w K mg base "is_length" 1 cIsLen) (e1 : Exc0 K mg "BadBeats" Eb) : FnOk P w K mg base (L2.CX P w) 2 f fd ["length"] (spC K (cCheckBad Eb)) := by
  (refine Lw.fn_okC F sc_check_length (fun _ => rfl) fun n cdv A outer s H E Z hk hr tk po => ?_; have hN := (sc_check_length).nd)
  replace hk : n < 1 ∨ 60 < n := hk
  (focus (refine Lw.ss_norm (Γ' := [_]) rfl ?_; refine Lw.ss_cons ?_; refine Lw.sw_if ?_; refine Lw.tw_not ?_; refine Lw.tw_val ?_; refine Lw.ew_call d1 hr tk ?_; refine Lw.aw_cons ?_; refine Lw.ew_var (i := 0) rfl (.inl rfl) rfl ?_; refine Lw.aw_nil ?_; apply Lw.callPost_1; refine And.intro ?_ ?_; refine And.intro ?_ ?_; (with_reducible rfl); exact True.intro; refine And.intro ?_ ?_; rfl; refine And.intro ?_ ?_; exact True.intro; rintro ⟨⟩ -; refine And.intro ?_ ?_; rfl; refine Lw.outP_eq rfl ?_; apply Exists.intro; apply Exists.intro; refine And.intro ?_ ?_; rfl; refine And.intro ?_ ?_; rfl; refine And.intro ?_ ?_; intro c1; simp only [Bool.not_eq_true', decide_eq_false_iff_not] at c1; refine Lw.ss_norm (Γ' := [_]) rfl ?_; refine Lw.ss_cons ?_; refine Lw.sw_raise0 rfl tk (by assumption) ?_; refine Exists.intro () ?_; refine And.intro ?_ ?_; refine And.intro ?_ ?_; rfl; exact True.intro; exact True.intro; intro c1; simp only [Bool.not_eq_false', decide_eq_true_eq] at c1; refine Lw.ss_norm (Γ' := [_]) rfl ?_; refine Lw.ss_nil ?_; refine Lw.ss_nil ?_; refine Exists.intro () ?_; refine And.intro ?_ ?_; omega; exact True.intro))
  all_goals (exfalso; omega)
end
section
variable {P : Program} {w : World} {K : PySem.W.Frag} {mg : Str → Option Value} {base : Heap} {f : Addr} {fd : FuncData} {C Eb : Addr}
/-! sets of beats: B's bits -/
def bitsN (L : Int) (ns : List Int) : Nat := ns.foldl (fun b n => b ||| 2 ^ (n % L).toNat) 0
def bl0 (B n : Nat) : List Int := ((List.range n).filter fun i => B.testBit i).map fun (i : Nat) => (i : Int)
def bl (L : Int) (B : Nat) : List Int := bl0 B L.toNat
def beatsD (C : Addr) (L : Int) (B : Nat) : D := .obj C [("length", .int L), ("_bits", .int (B : Int)), ("_beats", .tup ((bl L B).map D.int))]
theorem bitOr_nat (a b : Nat) : Builtin.bitOr (a : Int) (b : Int) = ((a ||| b : Nat) : Int) := by
  unfold Builtin.bitOr
  rw [bitAnd_nn (by unfold Builtin.bitNot; omega) (by unfold Builtin.bitNot; omega)]
  unfold Builtin.bitNot
  have h1 : (-(-(a : Int) - 1) - 1).toNat = a := by omega
  have h2 : (-(-(b : Int) - 1) - 1).toNat = b := by omega
  rw [h1, h2]; omega
theorem bitAnd_nat (a b : Nat) : Builtin.bitAnd (a : Int) (b : Int) = ((a &&& b : Nat) : Int) := by
  simp [Builtin.bitAnd]
theorem shr_nat (B k : Nat) : (B : Int) / 2 ^ k = ((B >>> k : Nat) : Int) := by
  rw [Nat.shiftRight_eq_div_pow]; simp
theorem bit_test (B k : Nat) : (Builtin.bitAnd ((B : Int) / 2 ^ k) 1 != 0) = B.testBit k := by
  rw [shr_nat]
  have h := bitAnd_nat (B >>> k) 1
  rw [show ((1 : Nat) : Int) = 1 from rfl] at h
  rw [h, Nat.testBit, Nat.and_comm]
  rcases Nat.mod_two_eq_zero_or_one (B >>> k) with e | e <;> simp [Nat.and_one_is_mod, e, Nat.one_and_eq_mod_two]
theorem bitsN_snoc (L : Int) (ns : List Int) (n : Int) : bitsN L (ns ++ [n]) = bitsN L ns ||| 2 ^ (n % L).toNat := by
  unfold bitsN; rw [List.foldl_append]; rfl
theorem take_snoc {ns : List Int} {k : Nat} (h : k < ns.length) : ns.take (k + 1) = ns.take k ++ [ns.getD k 0] := by
  rw [List.take_succ, List.getElem?_eq_getElem h, List.getD_eq_getElem?_getD, List.getElem?_eq_getElem h]; rfl
def IsSeq (d : D) (ns : List Int) : Prop := d = .lst (ns.map D.int) ∨ d = .tup (ns.map D.int)
theorem isSeq_l {ns : List Int} : IsSeq (.lst (ns.map D.int)) ns := .inl rfl
theorem isSeq_t {ns : List Int} : IsSeq (.tup (ns.map D.int)) ns := .inr rfl
theorem or_step (a : Nat) (j : Int) (h : 0 ≤ j) : Builtin.bitOr (a : Int) (1 * 2 ^ j.toNat) = ((a ||| 2 ^ j.toNat : Nat) : Int) := by
  rw [Int.one_mul, show (2 : Int) ^ j.toNat = ((2 ^ j.toNat : Nat) : Int) by simp]
  exact bitOr_nat _ _
theorem cpow_mod {n L : Int} (h1 : 1 ≤ L) (h2 : L ≤ 1000) : CPow 1 (n % L) := ⟨Int.emod_nonneg _ (by omega), Int.le_of_lt (Int.lt_of_lt_of_le (Int.emod_lt_of_pos _ (by omega)) (by omega)), by decide⟩
theorem bl0_len (B n : Nat) : (bl0 B n).length ≤ n := by
  unfold bl0
  rw [List.length_map]
  exact Nat.le_trans (List.length_filter_le _ _) (by simp)
theorem bl0_succ (B n : Nat) : bl0 B (n + 1) = if B.testBit n then bl0 B n ++ [(n : Int)] else bl0 B n := by
  unfold bl0
  rw [List.range_succ, List.filter_append, List.map_append]
  by_cases h : B.testBit n <;> simp [h]
def cInit (C : Addr) : Ct (Int × D × List Int) := .det
  (ar := fun (x1, x2, x3) => [.mu (.obj C []), .im (.int x1), .bo x2])
  (ok := fun (x1, x2, x3) => IsSeq x2 x3 ∧ 1 ≤ x1 ∧ x1 ≤ 60)
  (aft := fun (x1, x2, x3) => [.mu (beatsD C x1 (bitsN x1 x3)), .im (.int x1), .bo x2])
  (out := fun _ => .ret (.sc .non))
theorem ok_init (hb : Blt mg blts) (F : Fun K "__init__" "Beats.__init__" s_Beats_init f fd) (d1 : Def P w K mg base "check_length" 2 cCheckOk) (hC : Cls K C) (n1 : NoAttr K C "length") (n2 : NoAttr K C "_bits") (n3 : NoAttr K C "_beats") : FnOk P w K mg base (L2.CX P w) 3 f fd ["self", "length", "members"] (spC K (cInit C)) := by
  (refine Lw.fn_okC F sc_Beats_init (fun _ => rfl) fun ⟨L, d, ns⟩ cdv A outer s H E Z ⟨hk, hL1, hL2⟩ hr tk po => ?_; have hN := (sc_Beats_init).nd)
  replace hL1 : 1 ≤ L := hL1
  replace hL2 : L ≤ 60 := hL2
  replace hk : d = .lst (ns.map D.int) ∨ d = .tup (ns.map D.int) := by unfold IsSeq at hk; exact hk
  rcases hk with rfl | rfl
  all_goals
    (first | ((focus (refine Lw.ss_norm (Γ' := [_, _, _, _, _, _]) rfl ?_; refine Lw.ss_cons ?_; refine Lw.sw_expr ?_; refine Lw.ew_call d1 hr tk ?_; refine Lw.aw_cons ?_; refine Lw.ew_var (i := 1) rfl (.inl rfl) rfl ?_; refine Lw.aw_nil ?_; apply Lw.callPost_1; refine And.intro ?_ ?_; refine And.intro ?_ ?_; (with_reducible rfl); exact True.intro; refine And.intro ?_ ?_; rfl; refine And.intro ?_ ?_; refine And.intro ?_ ?_; assumption; assumption; rintro ⟨⟩ -; refine And.intro ?_ ?_; rfl; refine Lw.outP_eq rfl ?_; refine Lw.ss_norm (Γ' := [_, _, _, _, _, _]) rfl ?_; refine Lw.ss_cons ?_; refine Lw.sw_set (i := 3) hN rfl (.inr rfl) ?_; refine Lw.ew_int ?_; refine Lw.ss_norm (Γ' := [_, _, _, _, _, _]) rfl ?_; refine Lw.ss_cons ?_; refine Lw.sw_forF po rfl ?_; refine Lw.iw_seq ?_; refine Lw.ew_var (i := 2) rfl (.inl rfl) rfl ?_; apply Exists.intro; refine And.intro ?_ ?_; exact Or.inl rfl; (show _; rotate_left); (show _; rotate_left)))) | ((focus (refine Lw.ss_norm (Γ' := [_, _, _, _, _, _]) rfl ?_; refine Lw.ss_cons ?_; refine Lw.sw_expr ?_; refine Lw.ew_call d1 hr tk ?_; refine Lw.aw_cons ?_; refine Lw.ew_var (i := 1) rfl (.inl rfl) rfl ?_; refine Lw.aw_nil ?_; apply Lw.callPost_1; refine And.intro ?_ ?_; refine And.intro ?_ ?_; (with_reducible rfl); exact True.intro; refine And.intro ?_ ?_; rfl; refine And.intro ?_ ?_; refine And.intro ?_ ?_; assumption; assumption; rintro ⟨⟩ -; refine And.intro ?_ ?_; rfl; refine Lw.outP_eq rfl ?_; refine Lw.ss_norm (Γ' := [_, _, _, _, _, _]) rfl ?_; refine Lw.ss_cons ?_; refine Lw.sw_set (i := 3) hN rfl (.inr rfl) ?_; refine Lw.ew_int ?_; refine Lw.ss_norm (Γ' := [_, _, _, _, _, _]) rfl ?_; refine Lw.ss_cons ?_; refine Lw.sw_forF po rfl ?_; refine Lw.iw_seq ?_; refine Lw.ew_var (i := 2) rfl (.inl rfl) rfl ?_; apply Exists.intro; refine And.intro ?_ ?_; exact Or.inr rfl; (show _; rotate_left); (show _; rotate_left)))))
    refine Lw.for_intro (fun k Γ => Γ = [Sl.pw 0 (D.obj C []), Sl.im (D.int L), .un, Sl.im (D.int (bitsN L (ns.take k) : Nat)), .un, .un]) ?_ ?_ ?_
    · (focus (apply Exists.intro; refine And.intro ?_ ?_; rfl; refine Lw.fgt_eq rfl ?_; refine Lw.fgt_eq rfl ?_; refine Lw.fgt_un ?_; refine Lw.fgt_eq rfl ?_; refine Lw.fgt_un ?_; refine Lw.fgt_un ?_; exact Lw.fgt_nil))
    · rintro k Γ' hk rfl
      simp only [List.length_map] at hk
      (focus (refine Lw.gw_eq (Lw.getD_mapI (by first | omega | assumption | (simp only [List.length_map, List.length_reverse, List.length_range] at *; omega))) ?_; refine Lw.gw_name (i := 4) hN rfl (.inl rfl) ?_; refine Lw.ss_norm (Γ' := [_, _, _, _, _, _]) rfl ?_; refine Lw.ss_cons ?_; refine Lw.sw_set (i := 3) hN rfl (.inr rfl) ?_; refine Lw.ew_op L2.op_or ?_; refine Lw.ew_var (i := 3) rfl (.inr (.inl rfl)) rfl ?_; refine Lw.ew_op L2.op_shl ?_; refine Lw.ew_int ?_; refine Lw.ew_op L2.op_mod ?_; refine Lw.ew_var (i := 4) rfl (.inl rfl) rfl ?_; refine Lw.ew_var (i := 1) rfl (.inl rfl) rfl ?_; apply Exists.intro; apply Exists.intro; apply Exists.intro; refine And.intro ?_ ?_; rfl; refine And.intro ?_ ?_; rfl; refine And.intro ?_ ?_; refine Lw.o2_mod ?_; assumption; apply Exists.intro; apply Exists.intro; apply Exists.intro; refine And.intro ?_ ?_; rfl; refine And.intro ?_ ?_; rfl; refine And.intro ?_ ?_; refine Lw.o2_shl ?_; (apply cpow_mod <;> omega); apply Exists.intro; apply Exists.intro; apply Exists.intro; refine And.intro ?_ ?_; rfl; refine And.intro ?_ ?_; rfl; refine And.intro ?_ ?_; exact Lw.o2_or; refine Lw.ss_norm (Γ' := [_, _, _, _, _, _]) rfl ?_; refine Lw.ss_nil ?_; apply Exists.intro; refine And.intro ?_ ?_; rfl; refine Lw.fgt_eq rfl ?_; refine Lw.fgt_eq rfl ?_; refine Lw.fgt_un ?_; refine Lw.fgt_eq (Lw.sim_eq ?_) ?_; (show _; rotate_left); refine Lw.fgt_un ?_; refine Lw.fgt_un ?_; exact Lw.fgt_nil; (show _; rotate_left)))
      · congr 1
        rw [take_snoc hk, bitsN_snoc]
        exact or_step _ _ (Int.emod_nonneg _ (by omega))
    · rintro Γ' rfl
      simp only [List.length_map, List.take_length]
      generalize hB : bitsN L ns = B
      (focus (refine Lw.ss_cons ?_; refine Lw.sw_fld ?_; refine Lw.ew_var (i := 1) rfl (.inl rfl) rfl ?_; refine Lw.ew_var (i := 0) rfl (.inl rfl) rfl ?_; apply Exists.intro; apply Exists.intro; apply Exists.intro; refine And.intro ?_ ?_; rfl; refine And.intro ?_ ?_; exact Lw.owns_pw rfl; refine And.intro ?_ ?_; assumption; refine And.intro ?_ ?_; assumption; refine And.intro ?_ ?_; decide; refine Lw.ss_norm (Γ' := [_, _, _, _, _, _]) rfl ?_; refine Lw.ss_cons ?_; refine Lw.sw_fld ?_; refine Lw.ew_var (i := 3) rfl (.inr (.inl rfl)) rfl ?_; refine Lw.ew_var (i := 0) rfl (.inl rfl) rfl ?_; apply Exists.intro; apply Exists.intro; apply Exists.intro; refine And.intro ?_ ?_; rfl; refine And.intro ?_ ?_; exact Lw.owns_pw rfl; refine And.intro ?_ ?_; assumption; refine And.intro ?_ ?_; assumption; refine And.intro ?_ ?_; ((repeat (apply Lw.putD_lt)); exact of_decide_eq_true rfl); refine Lw.ss_norm (Γ' := [_, _, _, _, _, _]) rfl ?_; refine Lw.ss_cons ?_; refine Lw.sw_fld ?_; refine Lw.ew_callTy L2.call_tuple_of rfl (hb.get (by decide)) Lw.bb_tuple ?_; refine Lw.aw_cons ?_; refine Lw.ew_lc (own := [("beat", 5)]) rfl hN (L2.blkOk_by (N := ["self", "length", "members", "bits", "number", "beat"]) (sc := (defScope s_Beats_init)) (by decide +kernel)) ?_; refine Lw.iw_rng1 (hb.get (by decide)) ?_; refine Lw.aw_cons ?_; refine Lw.ew_var (i := 1) rfl (.inl rfl) rfl ?_; refine Lw.aw_nil ?_; apply Exists.intro; refine And.intro ?_ ?_; apply Lw.views_cons rfl; exact Lw.views_nil; refine And.intro ?_ ?_; refine And.intro ?_ ?_; omega; omega; (show _; rotate_left); (show _; rotate_left)))
      refine Lw.lc_intro (fun k acc Γ => acc = (bl0 B k).map D.int ∧ Γ = [Sl.pw 0 (D.obj C [("length", .int L), ("_bits", .int B)]), Sl.im (D.int L), .un, Sl.im (D.int (B : Nat)), .un, .un]) ?_ ?_ ?_
      · exact ⟨rfl, rfl⟩
      · rintro k acc Γ' hk ⟨rfl, rfl⟩
        have hl := bl0_len B k
        have e1 := bit_test B k
        (focus (refine And.intro ?_ ?_; apply Lw.noOwn_cons rfl rfl; exact Lw.noOwn_nil; intro Z'; intro s; intro H; intro C; intro cl; intro fp; refine Lw.gc_name (i := 5) hN rfl (.inl rfl) (by decide) ?_; intro s; intro H; intro C; intro cl; intro fp; refine Lw.tc_one ?_; refine Lw.tw_val ?_; refine Lw.ew_op L2.op_and ?_; refine Lw.ew_op L2.op_shr ?_; refine Lw.ew_var (i := 3) rfl (.inr (.inl rfl)) rfl ?_; refine Lw.ew_var (i := 5) rfl (.inl rfl) rfl ?_; apply Exists.intro; apply Exists.intro; apply Exists.intro; refine And.intro ?_ ?_; rfl; refine And.intro ?_ ?_; rfl; refine And.intro ?_ ?_; refine Lw.o2_shr ?_; omega; refine Lw.ew_int ?_; apply Exists.intro; apply Exists.intro; apply Exists.intro; refine And.intro ?_ ?_; rfl; refine And.intro ?_ ?_; rfl; refine And.intro ?_ ?_; exact Lw.o2_and; apply Exists.intro; apply Exists.intro; refine And.intro ?_ ?_; rfl; refine And.intro ?_ ?_; rfl; refine And.intro ?_ ?_; intro c1; simp only [bne_iff_ne, ne_eq] at c1; intro s; intro H; intro C; intro cl; intro fp; refine Lw.ew_var (i := 5) rfl (.inl rfl) rfl ?_; refine And.intro ?_ ?_; refine And.intro ?_ ?_; apply Exists.intro; rfl; exact True.intro; refine And.intro ?_ ?_; (simp only [List.length_map, List.length_append, List.length_nil, List.length_cons, List.length_set, List.length_replicate, List.length_range, List.length_take, List.length_reverse]; omega); refine And.intro ?_ ?_; (show _; rotate_left); refine Lw.cons_eq rfl ?_; refine Lw.cons_eq rfl ?_; refine Lw.cons_eq rfl ?_; refine Lw.cons_eq rfl ?_; refine Lw.cons_eq rfl ?_; refine Lw.cons_eq rfl ?_; rfl; intro c1; simp only [bne_eq_false_iff_eq] at c1; refine And.intro ?_ ?_; refine And.intro ?_ ?_; apply Exists.intro; rfl; exact True.intro; refine And.intro ?_ ?_; (show _; rotate_left); refine Lw.cons_eq rfl ?_; refine Lw.cons_eq rfl ?_; refine Lw.cons_eq rfl ?_; refine Lw.cons_eq rfl ?_; refine Lw.cons_eq rfl ?_; refine Lw.cons_eq rfl ?_; rfl; (show _; rotate_left); (show _; rotate_left)))
        · have c2 : B.testBit k = true := by rw [← e1, bne_iff_ne]; exact c1
          rw [bl0_succ, if_pos c2, List.map_append]; rfl
        · have c2 : ¬ B.testBit k = true := by rw [← e1, bne_iff_ne]; exact fun h => h c1
          rw [bl0_succ, if_neg c2]
      · rintro acc Γ' ⟨rfl, rfl⟩
        (focus (refine Lw.aw_nil ?_; apply Exists.intro; apply Exists.intro; refine And.intro ?_ ?_; apply Lw.views_cons rfl; exact Lw.views_nil; refine And.intro ?_ ?_; exact Lw.on_tupleL; refine Lw.ew_var (i := 0) rfl (.inl rfl) rfl ?_; apply Exists.intro; apply Exists.intro; apply Exists.intro; refine And.intro ?_ ?_; rfl; refine And.intro ?_ ?_; exact Lw.owns_pw rfl; refine And.intro ?_ ?_; assumption; refine And.intro ?_ ?_; assumption; refine And.intro ?_ ?_; (simp only [List.length_map, List.length_append, List.length_nil, List.length_cons, List.length_set, List.length_replicate, List.length_range, List.length_take, List.length_reverse]; omega); refine Lw.ss_norm (Γ' := [_, _, _, _, _, _]) rfl ?_; refine Lw.ss_nil ?_; refine Exists.intro () ?_; refine And.intro ?_ ?_; refine And.intro ?_ ?_; (with_reducible rfl); refine And.intro ?_ ?_; refine Lw.pw_eq ?_; (show _; rotate_left); exact True.intro; exact True.intro; (show _; rotate_left)))
        subst hB; rfl
end
section
variable {P : Program} {w : World} {K : PySem.W.Frag} {mg : Str → Option Value} {base : Heap} {f : Addr} {fd : FuncData} {C Eb : Addr}
theorem kit_self (K : PySem.W.Frag) (C : Addr) : PySem.W.kitOne K (.ref C) (.ref C) = some true := by
  unfold PySem.W.kitOne; rw [if_pos (by simp)]
def cHas (C : Addr) : Ct (Int × Nat × Int) := .det
  (ar := fun (x1, x2, x3) => [.im (beatsD C x1 x2), .im (.int x3)])
  (ok := fun (x1, x2, x3) => 1 ≤ x1 ∧ x1 ≤ 60)
  (aft := fun (x1, x2, x3) => [.im (beatsD C x1 x2), .im (.int x3)])
  (out := fun (x1, x2, x3) => .ret (.sc (.bl (x2.testBit (x3 % x1).toNat))))
theorem bit_test1 (B k : Nat) : decide (Builtin.bitAnd ((B : Int) / 2 ^ k) 1 = 1) = B.testBit k := by
  rw [← bit_test, shr_nat]
  have h := bitAnd_nat (B >>> k) 1
  rw [show ((1 : Nat) : Int) = 1 from rfl] at h
  rw [h, Nat.and_one_is_mod]
  rcases Nat.mod_two_eq_zero_or_one (B >>> k) with e | e <;> rw [e] <;> rfl
theorem ok_contains (hb : Blt mg blts) (F : Fun K "__contains__" "Beats.__contains__" s_Beats_contains f fd) (hC : Cls K C) (n1 : NoAttr K C "length") (n2 : NoAttr K C "_bits") : FnOk P w K mg base (L2.CX P w) 1 f fd ["self", "number"] (spC K (cHas C)) := by
  (refine Lw.fn_okC F sc_Beats_contains (fun _ => rfl) fun ⟨L, B, n⟩ cdv A outer s H E Z ⟨hL1, hL2⟩ hr tk po => ?_; have hN := (sc_Beats_contains).nd)
  replace hL1 : 1 ≤ L := hL1
  replace hL2 : L ≤ 60 := hL2
  (focus (refine Lw.ss_norm (Γ' := [_, _]) rfl ?_; refine Lw.ss_cons ?_; refine Lw.sw_ret ?_; refine Lw.ew_cmp (Lw.opr_or L2.op_eq (L2.op_eqD hr.units)) ?_; refine Lw.ew_op L2.op_and ?_; refine Lw.ew_op L2.op_shr ?_; refine Lw.ew_fld ?_; refine Lw.ew_var (i := 0) rfl (.inl rfl) rfl ?_; apply Exists.intro; apply Exists.intro; apply Exists.intro; refine And.intro ?_ ?_; rfl; refine And.intro ?_ ?_; assumption; refine And.intro ?_ ?_; assumption; refine And.intro ?_ ?_; rfl; refine Lw.ew_op L2.op_mod ?_; refine Lw.ew_var (i := 1) rfl (.inl rfl) rfl ?_; refine Lw.ew_fld ?_; refine Lw.ew_var (i := 0) rfl (.inl rfl) rfl ?_; apply Exists.intro; apply Exists.intro; apply Exists.intro; refine And.intro ?_ ?_; rfl; refine And.intro ?_ ?_; assumption; refine And.intro ?_ ?_; assumption; refine And.intro ?_ ?_; rfl; apply Exists.intro; apply Exists.intro; apply Exists.intro; refine And.intro ?_ ?_; rfl; refine And.intro ?_ ?_; rfl; refine And.intro ?_ ?_; refine Lw.o2_mod ?_; assumption; apply Exists.intro; apply Exists.intro; apply Exists.intro; refine And.intro ?_ ?_; rfl; refine And.intro ?_ ?_; rfl; refine And.intro ?_ ?_; refine Lw.o2_shr ?_; (show _; rotate_left); refine Lw.ew_int ?_; apply Exists.intro; apply Exists.intro; apply Exists.intro; refine And.intro ?_ ?_; rfl; refine And.intro ?_ ?_; rfl; refine And.intro ?_ ?_; exact Lw.o2_and; refine Lw.ew_int ?_; apply Exists.intro; apply Exists.intro; apply Exists.intro; refine And.intro ?_ ?_; rfl; refine And.intro ?_ ?_; rfl; refine And.intro ?_ ?_; exact Lw.o2_l Lw.o2_eqI; refine Exists.intro () ?_; refine And.intro ?_ ?_; refine And.intro ?_ ?_; (show _; rotate_left); exact True.intro; exact True.intro; (show _; rotate_left); (show _; rotate_left)))
  · exact Int.emod_nonneg _ (by omega)
  · rw [bit_test1]
def cBool (C : Addr) : Ct (Int × Nat) := .det
  (ar := fun (x1, x2) => [.im (beatsD C x1 x2)])
  (ok := fun _ => True)
  (aft := fun (x1, x2) => [.im (beatsD C x1 x2)])
  (out := fun (x1, x2) => .ret (.sc (.bl (!(bl x1 x2).isEmpty))))
theorem ok_bool (hb : Blt mg blts) (F : Fun K "__bool__" "Beats.__bool__" s_Beats_bool f fd) (hC : Cls K C) (n3 : NoAttr K C "_beats") : FnOk P w K mg base (L2.CX P w) 1 f fd ["self"] (spC K (cBool C)) := by
  (refine Lw.fn_okC F sc_Beats_bool (fun _ => rfl) fun ⟨L, B⟩ cdv A outer s H E Z hk hr tk po => ?_; have hN := (sc_Beats_bool).nd)
  (focus (refine Lw.ss_norm (Γ' := [_]) rfl ?_; refine Lw.ss_cons ?_; refine Lw.sw_ret ?_; refine Lw.ew_callTy Lw.call_boolV rfl (hb.get (by decide)) Lw.bb_bool ?_; refine Lw.aw_cons ?_; refine Lw.ew_fld ?_; refine Lw.ew_var (i := 0) rfl (.inl rfl) rfl ?_; apply Exists.intro; apply Exists.intro; apply Exists.intro; refine And.intro ?_ ?_; rfl; refine And.intro ?_ ?_; assumption; refine And.intro ?_ ?_; assumption; refine And.intro ?_ ?_; rfl; refine Lw.aw_nil ?_; apply Exists.intro; apply Exists.intro; refine And.intro ?_ ?_; apply Lw.views_cons rfl; exact Lw.views_nil; refine And.intro ?_ ?_; exact Lw.on_boolV rfl; refine Exists.intro () ?_; refine And.intro ?_ ?_; refine And.intro ?_ ?_; (show _; rotate_left); exact True.intro; exact True.intro; (show _; rotate_left)))
  · simp
def cLen (C : Addr) : Ct (Int × Nat) := .det
  (ar := fun (x1, x2) => [.im (beatsD C x1 x2)])
  (ok := fun _ => True)
  (aft := fun (x1, x2) => [.im (beatsD C x1 x2)])
  (out := fun (x1, x2) => .ret (.sc (.int (bl x1 x2).length)))
theorem ok_len (hb : Blt mg blts) (F : Fun K "__len__" "Beats.__len__" s_Beats_len f fd) (hC : Cls K C) (n3 : NoAttr K C "_beats") : FnOk P w K mg base (L2.CX P w) 1 f fd ["self"] (spC K (cLen C)) := by
  (refine Lw.fn_okC F sc_Beats_len (fun _ => rfl) fun ⟨L, B⟩ cdv A outer s H E Z hk hr tk po => ?_; have hN := (sc_Beats_len).nd)
  (focus (refine Lw.ss_norm (Γ' := [_]) rfl ?_; refine Lw.ss_cons ?_; refine Lw.sw_ret ?_; refine Lw.ew_callB L2.call_len_seq rfl (hb.get (by decide)) Lw.bb_len ?_; refine Lw.aw_cons ?_; refine Lw.ew_fld ?_; refine Lw.ew_var (i := 0) rfl (.inl rfl) rfl ?_; apply Exists.intro; apply Exists.intro; apply Exists.intro; refine And.intro ?_ ?_; rfl; refine And.intro ?_ ?_; assumption; refine And.intro ?_ ?_; assumption; refine And.intro ?_ ?_; rfl; refine Lw.aw_nil ?_; apply Exists.intro; apply Exists.intro; refine And.intro ?_ ?_; apply Lw.views_cons rfl; exact Lw.views_nil; refine And.intro ?_ ?_; exact Lw.on_lenT; refine Exists.intro () ?_; refine And.intro ?_ ?_; refine And.intro ?_ ?_; (focus (simp only [List.length_map, List.take_length]; done)); exact True.intro; exact True.intro))
def cEq (C : Addr) : Ct (Int × Nat × Int × Nat) := .det
  (ar := fun (x1, x2, x3, x4) => [.im (beatsD C x1 x2), .im (beatsD C x3 x4)])
  (ok := fun _ => True)
  (aft := fun (x1, x2, x3, x4) => [.im (beatsD C x1 x2), .im (beatsD C x3 x4)])
  (out := fun (x1, x2, x3, x4) => .ret (.sc (.bl (decide (x1 = x3 ∧ x2 = x4)))))
theorem ok_eq (hb : Blt mg blts) (F : Fun K "__eq__" "Beats.__eq__" s_Beats_eq f fd) (hC : Cls K C) (hI : ClsI K C) (n1 : NoAttr K C "length") (n2 : NoAttr K C "_bits") (zC : mg "Beats" = some (.ref C)) : FnOk P w K mg base (L2.CX P w) 1 f fd ["self", "other"] (spC K (cEq C)) := by
  (refine Lw.fn_okC F sc_Beats_eq (fun _ => rfl) fun ⟨L, B, Lb, B2⟩ cdv A outer s H E Z hk hr tk po => ?_; have hN := (sc_Beats_eq).nd)
  have hk1 := kit_self K C
  (focus (refine Lw.ss_norm (Γ' := [_, _]) rfl ?_; refine Lw.ss_cons ?_; refine Lw.sw_ret ?_; refine Lw.ew_and ?_; refine Lw.ew_callB L2.call_isi rfl (hb.get (by decide)) Lw.bb_isinstance ?_; refine Lw.aw_cons ?_; refine Lw.ew_var (i := 1) rfl (.inl rfl) rfl ?_; refine Lw.aw_cons ?_; refine Lw.ew_cls (by assumption) ?_; refine Lw.aw_nil ?_; apply Exists.intro; apply Exists.intro; refine And.intro ?_ ?_; apply Lw.views_cons rfl; apply Lw.views_cons rfl; exact Lw.views_nil; refine And.intro ?_ ?_; exact Lw.on_isi ⟨rfl, by assumption⟩ rfl (by assumption); apply Exists.intro; refine And.intro ?_ ?_; rfl; refine And.intro ?_ ?_; intro c1; simp only at c1; refine Lw.ew_and ?_; refine Lw.ew_cmp (Lw.opr_or L2.op_eq (L2.op_eqD hr.units)) ?_; refine Lw.ew_fld ?_; refine Lw.ew_var (i := 0) rfl (.inl rfl) rfl ?_; apply Exists.intro; apply Exists.intro; apply Exists.intro; refine And.intro ?_ ?_; rfl; refine And.intro ?_ ?_; assumption; refine And.intro ?_ ?_; assumption; refine And.intro ?_ ?_; rfl; refine Lw.ew_fld ?_; refine Lw.ew_var (i := 1) rfl (.inl rfl) rfl ?_; apply Exists.intro; apply Exists.intro; apply Exists.intro; refine And.intro ?_ ?_; rfl; refine And.intro ?_ ?_; assumption; refine And.intro ?_ ?_; assumption; refine And.intro ?_ ?_; rfl; apply Exists.intro; apply Exists.intro; apply Exists.intro; refine And.intro ?_ ?_; rfl; refine And.intro ?_ ?_; rfl; refine And.intro ?_ ?_; exact Lw.o2_l Lw.o2_eqI; apply Exists.intro; refine And.intro ?_ ?_; rfl; refine And.intro ?_ ?_; intro c2; simp only [decide_eq_true_eq] at c2; refine Lw.ew_one ?_; refine Lw.ew_cmp (Lw.opr_or L2.op_eq (L2.op_eqD hr.units)) ?_; refine Lw.ew_fld ?_; refine Lw.ew_var (i := 0) rfl (.inl rfl) rfl ?_; apply Exists.intro; apply Exists.intro; apply Exists.intro; refine And.intro ?_ ?_; rfl; refine And.intro ?_ ?_; assumption; refine And.intro ?_ ?_; assumption; refine And.intro ?_ ?_; rfl; refine Lw.ew_fld ?_; refine Lw.ew_var (i := 1) rfl (.inl rfl) rfl ?_; apply Exists.intro; apply Exists.intro; apply Exists.intro; refine And.intro ?_ ?_; rfl; refine And.intro ?_ ?_; assumption; refine And.intro ?_ ?_; assumption; refine And.intro ?_ ?_; rfl; apply Exists.intro; apply Exists.intro; apply Exists.intro; refine And.intro ?_ ?_; rfl; refine And.intro ?_ ?_; rfl; refine And.intro ?_ ?_; exact Lw.o2_l Lw.o2_eqI; refine Exists.intro () ?_; refine And.intro ?_ ?_; refine And.intro ?_ ?_; (show _; rotate_left); exact True.intro; exact True.intro; intro c2; simp only [decide_eq_false_iff_not] at c2; refine Exists.intro () ?_; refine And.intro ?_ ?_; refine And.intro ?_ ?_; (show _; rotate_left); exact True.intro; exact True.intro; intro c1; simp only [Bool.true_eq_false] at c1; (show _; rotate_left); (show _; rotate_left)))
  · congr 1; rw [decide_eq_decide]; exact ⟨fun h => ⟨by omega, by omega⟩, fun h => by omega⟩
  · congr 1; symm; rw [decide_eq_false_iff_not]; exact fun h => by omega
theorem ok_iter (hb : Blt mg blts) (F : Fun K "__iter__" "Beats.__iter__" s_Beats_iter f fd) (hC : Cls K C) (n3 : NoAttr K C "_beats") : FnOk P w K mg base (L2.CX P w) 1 f fd ["self"] (spIt K C "_beats" base.objs.size) :=
  ok_it F sc_Beats_iter rfl (hb.get (by decide)) (.inl rfl) hC n3 rfl
theorem ok_lenP (hb : Blt mg blts) (F : Fun K "__len__" "Beats.__len__" s_Beats_len f fd) (hC : Cls K C) (n3 : NoAttr K C "_beats") : FnOk P w K mg base (L2.CX P w) 1 f fd ["self"] (spLn K C "_beats") :=
  ok_ln F sc_Beats_len rfl (hb.get (by decide)) (.inl rfl) hC n3 rfl
end
section
variable {P : Program} {w : World} {K : PySem.W.Frag} {mg : Str → Option Value} {base : Heap} {f : Addr} {fd : FuncData}
/-! plain data, the same data -/
def okD : D → Bool
  | .non => true
  | .bl _ => true
  | .int _ => true
  | .str _ => true
  | .lst _ => true
  | .tup _ => true
  | _ => false
mutual
def sameD : D → D → Bool
  | .non, .non => true
  | .bl a, .bl b => a == b
  | .int a, .int b => a == b
  | .str a, .str b => decide (a = b)
  | .lst gs, .lst ds => sameDs gs ds
  | .tup gs, .tup ds => sameDs gs ds
  | _, _ => false
def sameDs : List D → List D → Bool
  | [], [] => true
  | g :: gs, d :: ds => sameD g d && sameDs gs ds
  | _, _ => false
end
mutual
/-- plain all through, in n steps -/
def okN : Nat → D → Bool
  | n + 1, .lst ds => decide (ds.length ≤ 100000) && okNs n ds
  | n + 1, .tup ds => decide (ds.length ≤ 100000) && okNs n ds
  | _, .non => true
  | _, .bl _ => true
  | _, .int _ => true
  | _, .str _ => true
  | _, _ => false
def okNs : Nat → List D → Bool
  | _, [] => true
  | n, d :: ds => okN n d && okNs n ds
end
theorem sameDs_len : ∀ {gs ds : List D}, sameDs gs ds = true → gs.length = ds.length
  | [], [], _ => rfl
  | _ :: gs, _ :: ds, h => by
    simp only [sameDs, Bool.and_eq_true] at h
    simp [sameDs_len h.2]
  | [], _ :: _, h => by simp [sameDs] at h
  | _ :: _, [], h => by simp [sameDs] at h
theorem sameDs_of : ∀ {gs ds : List D}, gs.length = ds.length → (∀ j, j < ds.length → sameD (gs.getD j .non) (ds.getD j .non) = true) → sameDs gs ds = true
  | [], [], _, _ => rfl
  | g :: gs, d :: ds, h, q => by
    simp only [sameDs, Bool.and_eq_true]
    exact ⟨by simpa using q 0 (by simp), sameDs_of (by simpa using h) fun j hj => by simpa using q (j + 1) (by simpa using hj)⟩
  | [], _ :: _, h, _ => by simp at h
  | _ :: _, [], h, _ => by simp at h
theorem sameDs_no : ∀ {gs ds : List D} (j : Nat), j < ds.length → gs.length = ds.length → sameD (gs.getD j .non) (ds.getD j .non) = false → sameDs gs ds = false
  | g :: gs, d :: ds, 0, _, _, q => by simp only [sameDs]; simp at q; simp [q]
  | g :: gs, d :: ds, j + 1, h, e, q => by
    simp only [sameDs]
    rw [sameDs_no j (by simpa using h) (by simpa using e) (by simpa using q)]; simp
  | [], [], _, h, _, _ => by simp at h
  | [], _ :: _, _, _, e, _ => by simp at e
  | _ :: _, [], _, h, _, _ => by simp at h
theorem okNs_get : ∀ {n : Nat} {ds : List D} {j : Nat}, okNs n ds = true → j < ds.length → okN n (ds.getD j .non) = true
  | _, [], _, _, h => by simp at h
  | _, d :: ds, 0, h, _ => by simp only [okNs, Bool.and_eq_true] at h; simpa using h.1
  | n, d :: ds, j + 1, h, q => by
    simp only [okNs, Bool.and_eq_true] at h
    simpa using okNs_get h.2 (by simpa using q)
def cIsInt : Ct D := .det
  (ar := fun y => [.bo y])
  (ok := fun y => okD y = true)
  (aft := fun y => [.bo y])
  (out := fun y => .ret (.sc (.bl (match y with | .int _ => true | _ => false))))
theorem ok_is_int (hb : Blt mg blts) (F : Fun K "_law_is_int" "_law_is_int" s_law_is_int f fd) : FnOk P w K mg base (L2.CX P w) 1 f fd ["got"] (spC K cIsInt) := by
  (refine Lw.fn_okC F sc_law_is_int (fun _ => rfl) fun g cdv A outer s H E Z hk hr tk po => ?_; have hN := (sc_law_is_int).nd)
  replace hk : okD g = true := hk
  cases g <;> first | (cases hk; done) | skip
  ((focus (refine Lw.ss_norm (Γ' := [_]) rfl ?_; refine Lw.ss_cons ?_; refine Lw.sw_ret ?_; refine Lw.ew_and ?_; refine Lw.ew_callB L2.call_isi rfl (hb.get (by decide)) Lw.bb_isinstance ?_; refine Lw.aw_cons ?_; refine Lw.ew_var (i := 0) rfl (.inl rfl) rfl ?_; refine Lw.aw_cons ?_; refine Lw.ew_ty (n := "int") (hb.get (by decide)) Lw.bb_int ?_; refine Lw.aw_nil ?_; apply Exists.intro; apply Exists.intro; refine And.intro ?_ ?_; apply Lw.views_cons rfl; apply Lw.views_cons rfl; exact Lw.views_nil; refine And.intro ?_ ?_; exact Lw.on_isi (b := false) rfl rfl rfl; apply Exists.intro; refine And.intro ?_ ?_; rfl; refine And.intro ?_ ?_; intro c1; simp only [Bool.false_eq_true] at c1; intro c1; simp only at c1; refine Exists.intro () ?_; refine And.intro ?_ ?_; refine And.intro ?_ ?_; (with_reducible rfl); exact True.intro; exact True.intro)); (focus (refine Lw.ss_norm (Γ' := [_]) rfl ?_; refine Lw.ss_cons ?_; refine Lw.sw_ret ?_; refine Lw.ew_and ?_; refine Lw.ew_callB L2.call_isi rfl (hb.get (by decide)) Lw.bb_isinstance ?_; refine Lw.aw_cons ?_; refine Lw.ew_var (i := 0) rfl (.inl rfl) rfl ?_; refine Lw.aw_cons ?_; refine Lw.ew_ty (n := "int") (hb.get (by decide)) Lw.bb_int ?_; refine Lw.aw_nil ?_; apply Exists.intro; apply Exists.intro; refine And.intro ?_ ?_; apply Lw.views_cons rfl; apply Lw.views_cons rfl; exact Lw.views_nil; refine And.intro ?_ ?_; exact Lw.on_isi (b := true) rfl rfl rfl; apply Exists.intro; refine And.intro ?_ ?_; rfl; refine And.intro ?_ ?_; intro c1; simp only at c1; refine Lw.ew_one ?_; refine Lw.ew_not ?_; refine Lw.ew_callB L2.call_isi rfl (hb.get (by decide)) Lw.bb_isinstance ?_; refine Lw.aw_cons ?_; refine Lw.ew_var (i := 0) rfl (.inl rfl) rfl ?_; refine Lw.aw_cons ?_; refine Lw.ew_ty (n := "bool") (hb.get (by decide)) Lw.bb_bool ?_; refine Lw.aw_nil ?_; apply Exists.intro; apply Exists.intro; refine And.intro ?_ ?_; apply Lw.views_cons rfl; apply Lw.views_cons rfl; exact Lw.views_nil; refine And.intro ?_ ?_; exact Lw.on_isi (b := true) rfl rfl rfl; apply Exists.intro; refine And.intro ?_ ?_; rfl; refine Exists.intro () ?_; refine And.intro ?_ ?_; refine And.intro ?_ ?_; rfl; exact True.intro; exact True.intro; intro c1; simp only [Bool.true_eq_false] at c1)); (focus (refine Lw.ss_norm (Γ' := [_]) rfl ?_; refine Lw.ss_cons ?_; refine Lw.sw_ret ?_; refine Lw.ew_and ?_; refine Lw.ew_callB L2.call_isi rfl (hb.get (by decide)) Lw.bb_isinstance ?_; refine Lw.aw_cons ?_; refine Lw.ew_var (i := 0) rfl (.inl rfl) rfl ?_; refine Lw.aw_cons ?_; refine Lw.ew_ty (n := "int") (hb.get (by decide)) Lw.bb_int ?_; refine Lw.aw_nil ?_; apply Exists.intro; apply Exists.intro; refine And.intro ?_ ?_; apply Lw.views_cons rfl; apply Lw.views_cons rfl; exact Lw.views_nil; refine And.intro ?_ ?_; exact Lw.on_isi (b := true) rfl rfl rfl; apply Exists.intro; refine And.intro ?_ ?_; rfl; refine And.intro ?_ ?_; intro c1; simp only at c1; refine Lw.ew_one ?_; refine Lw.ew_not ?_; refine Lw.ew_callB L2.call_isi rfl (hb.get (by decide)) Lw.bb_isinstance ?_; refine Lw.aw_cons ?_; refine Lw.ew_var (i := 0) rfl (.inl rfl) rfl ?_; refine Lw.aw_cons ?_; refine Lw.ew_ty (n := "bool") (hb.get (by decide)) Lw.bb_bool ?_; refine Lw.aw_nil ?_; apply Exists.intro; apply Exists.intro; refine And.intro ?_ ?_; apply Lw.views_cons rfl; apply Lw.views_cons rfl; exact Lw.views_nil; refine And.intro ?_ ?_; exact Lw.on_isi (b := false) rfl rfl rfl; apply Exists.intro; refine And.intro ?_ ?_; rfl; refine Exists.intro () ?_; refine And.intro ?_ ?_; refine And.intro ?_ ?_; rfl; exact True.intro; exact True.intro; intro c1; simp only [Bool.true_eq_false] at c1)); (focus (refine Lw.ss_norm (Γ' := [_]) rfl ?_; refine Lw.ss_cons ?_; refine Lw.sw_ret ?_; refine Lw.ew_and ?_; refine Lw.ew_callB L2.call_isi rfl (hb.get (by decide)) Lw.bb_isinstance ?_; refine Lw.aw_cons ?_; refine Lw.ew_var (i := 0) rfl (.inl rfl) rfl ?_; refine Lw.aw_cons ?_; refine Lw.ew_ty (n := "int") (hb.get (by decide)) Lw.bb_int ?_; refine Lw.aw_nil ?_; apply Exists.intro; apply Exists.intro; refine And.intro ?_ ?_; apply Lw.views_cons rfl; apply Lw.views_cons rfl; exact Lw.views_nil; refine And.intro ?_ ?_; exact Lw.on_isi (b := false) rfl rfl rfl; apply Exists.intro; refine And.intro ?_ ?_; rfl; refine And.intro ?_ ?_; intro c1; simp only [Bool.false_eq_true] at c1; intro c1; simp only at c1; refine Exists.intro () ?_; refine And.intro ?_ ?_; refine And.intro ?_ ?_; (with_reducible rfl); exact True.intro; exact True.intro)); (focus (refine Lw.ss_norm (Γ' := [_]) rfl ?_; refine Lw.ss_cons ?_; refine Lw.sw_ret ?_; refine Lw.ew_and ?_; refine Lw.ew_callB L2.call_isi rfl (hb.get (by decide)) Lw.bb_isinstance ?_; refine Lw.aw_cons ?_; refine Lw.ew_var (i := 0) rfl (.inl rfl) rfl ?_; refine Lw.aw_cons ?_; refine Lw.ew_ty (n := "int") (hb.get (by decide)) Lw.bb_int ?_; refine Lw.aw_nil ?_; apply Exists.intro; apply Exists.intro; refine And.intro ?_ ?_; apply Lw.views_cons rfl; apply Lw.views_cons rfl; exact Lw.views_nil; refine And.intro ?_ ?_; exact Lw.on_isi (b := false) rfl rfl rfl; apply Exists.intro; refine And.intro ?_ ?_; rfl; refine And.intro ?_ ?_; intro c1; simp only [Bool.false_eq_true] at c1; intro c1; simp only at c1; refine Exists.intro () ?_; refine And.intro ?_ ?_; refine And.intro ?_ ?_; (with_reducible rfl); exact True.intro; exact True.intro)); (focus (refine Lw.ss_norm (Γ' := [_]) rfl ?_; refine Lw.ss_cons ?_; refine Lw.sw_ret ?_; refine Lw.ew_and ?_; refine Lw.ew_callB L2.call_isi rfl (hb.get (by decide)) Lw.bb_isinstance ?_; refine Lw.aw_cons ?_; refine Lw.ew_var (i := 0) rfl (.inl rfl) rfl ?_; refine Lw.aw_cons ?_; refine Lw.ew_ty (n := "int") (hb.get (by decide)) Lw.bb_int ?_; refine Lw.aw_nil ?_; apply Exists.intro; apply Exists.intro; refine And.intro ?_ ?_; apply Lw.views_cons rfl; apply Lw.views_cons rfl; exact Lw.views_nil; refine And.intro ?_ ?_; exact Lw.on_isi (b := false) rfl rfl rfl; apply Exists.intro; refine And.intro ?_ ?_; rfl; refine And.intro ?_ ?_; intro c1; simp only [Bool.false_eq_true] at c1; intro c1; simp only at c1; refine Exists.intro () ?_; refine And.intro ?_ ?_; refine And.intro ?_ ?_; (with_reducible rfl); exact True.intro; exact True.intro)))
def cSame (n : Nat) : Ct (D × D) := .det
  (ar := fun (x1, x2) => [.bo x1, .bo x2])
  (ok := fun (x1, x2) => okN n x1 = true ∧ okN n x2 = true)
  (aft := fun (x1, x2) => [.bo x1, .bo x2])
  (out := fun (x1, x2) => .ret (.sc (.bl (sameD x1 x2))))
theorem okN_ok {n : Nat} {d : D} (h : okN n d = true) : okD d = true := by
  cases d <;> first | rfl | (cases n <;> simp [okN] at h)
theorem ok_same0 (hb : Blt mg blts) (F : Fun K "_law_same" "_law_same" s_law_same f fd) (d1 : Def P w K mg base "_law_is_int" 1 cIsInt) : FnOk P w K mg base (L2.CX P w) 2 f fd ["got", "due"] (spC K (cSame 0)) := by
  (refine Lw.fn_okC F sc_law_same (fun _ => rfl) fun ⟨g, d⟩ cdv A outer s H E Z ⟨hk, hd⟩ hr tk po => ?_; have hN := (sc_law_same).nd)
  replace hk : okN 0 g = true := hk
  replace hd : okN 0 d = true := hd
  have hg := okN_ok hk
  cases d with
  | bl b =>
    cases b <;> (cases g <;> first | (simp [okN] at hk; done) | skip)
    ((focus (refine Lw.ss_norm (Γ' := [_, _, _]) rfl ?_; refine Lw.ss_cons ?_; refine Lw.sw_if ?_; refine Lw.tw_cmp (Lw.opr_or L2.op_isN Lw.op_isBx) ?_; refine Lw.ew_var (i := 1) rfl (.inl rfl) rfl ?_; refine Lw.ew_non ?_; apply Exists.intro; apply Exists.intro; apply Exists.intro; refine And.intro ?_ ?_; rfl; refine And.intro ?_ ?_; rfl; refine And.intro ?_ ?_; exact Lw.o2_l Lw.o2_isN; refine And.intro ?_ ?_; intro c1; simp only [D.isNon, Bool.false_eq_true] at c1; intro c1; simp only [D.isNon] at c1; refine Lw.ss_nil ?_; refine Lw.ss_cons ?_; refine Lw.sw_if ?_; refine Lw.tw_pw ?_; refine Lw.ww_or ?_; refine Lw.tw_cmp (Lw.opr_or L2.op_isN Lw.op_isBx) ?_; refine Lw.ew_var (i := 1) rfl (.inl rfl) rfl ?_; refine Lw.ew_bl ?_; apply Exists.intro; apply Exists.intro; apply Exists.intro; refine And.intro ?_ ?_; rfl; refine And.intro ?_ ?_; rfl; refine And.intro ?_ ?_; exact Lw.o2_r Lw.o2_isB; refine And.intro ?_ ?_; intro c2; simp only [D.isBl] at c2; refine Lw.ww_or1 ?_; refine Lw.tw_cmp (Lw.opr_or L2.op_isN Lw.op_isBx) ?_; refine Lw.ew_var (i := 1) rfl (.inl rfl) rfl ?_; refine Lw.ew_bl ?_; apply Exists.intro; apply Exists.intro; apply Exists.intro; refine And.intro ?_ ?_; rfl; refine And.intro ?_ ?_; rfl; refine And.intro ?_ ?_; exact Lw.o2_r Lw.o2_isB; refine And.intro ?_ ?_; intro c3; simp only [D.isBl, beq_self_eq_true] at c3; refine Lw.ss_cons ?_; refine Lw.sw_ret ?_; refine Lw.ew_and ?_; refine Lw.ew_callB L2.call_isi rfl (hb.get (by decide)) Lw.bb_isinstance ?_; refine Lw.aw_cons ?_; refine Lw.ew_var (i := 0) rfl (.inl rfl) rfl ?_; refine Lw.aw_cons ?_; refine Lw.ew_ty (n := "bool") (hb.get (by decide)) Lw.bb_bool ?_; refine Lw.aw_nil ?_; apply Exists.intro; apply Exists.intro; refine And.intro ?_ ?_; apply Lw.views_cons rfl; apply Lw.views_cons rfl; exact Lw.views_nil; refine And.intro ?_ ?_; exact Lw.on_isi (b := false) rfl rfl rfl; apply Exists.intro; refine And.intro ?_ ?_; rfl; refine And.intro ?_ ?_; intro c4; simp only [Bool.false_eq_true] at c4; intro c4; simp only at c4; refine Exists.intro () ?_; refine And.intro ?_ ?_; refine And.intro ?_ ?_; rfl; exact True.intro; exact True.intro; intro c3; simp only [D.isBl, beq_self_eq_true, Bool.true_eq_false] at c3; intro c2; simp only [D.isBl, beq_iff_eq, Bool.false_eq_true] at c2)); (focus (refine Lw.ss_norm (Γ' := [_, _, _]) rfl ?_; refine Lw.ss_cons ?_; refine Lw.sw_if ?_; refine Lw.tw_cmp (Lw.opr_or L2.op_isN Lw.op_isBx) ?_; refine Lw.ew_var (i := 1) rfl (.inl rfl) rfl ?_; refine Lw.ew_non ?_; apply Exists.intro; apply Exists.intro; apply Exists.intro; refine And.intro ?_ ?_; rfl; refine And.intro ?_ ?_; rfl; refine And.intro ?_ ?_; exact Lw.o2_l Lw.o2_isN; refine And.intro ?_ ?_; intro c1; simp only [D.isNon, Bool.false_eq_true] at c1; intro c1; simp only [D.isNon] at c1; refine Lw.ss_nil ?_; refine Lw.ss_cons ?_; refine Lw.sw_if ?_; refine Lw.tw_pw ?_; refine Lw.ww_or ?_; refine Lw.tw_cmp (Lw.opr_or L2.op_isN Lw.op_isBx) ?_; refine Lw.ew_var (i := 1) rfl (.inl rfl) rfl ?_; refine Lw.ew_bl ?_; apply Exists.intro; apply Exists.intro; apply Exists.intro; refine And.intro ?_ ?_; rfl; refine And.intro ?_ ?_; rfl; refine And.intro ?_ ?_; exact Lw.o2_r Lw.o2_isB; refine And.intro ?_ ?_; intro c2; simp only [D.isBl] at c2; refine Lw.ww_or1 ?_; refine Lw.tw_cmp (Lw.opr_or L2.op_isN Lw.op_isBx) ?_; refine Lw.ew_var (i := 1) rfl (.inl rfl) rfl ?_; refine Lw.ew_bl ?_; apply Exists.intro; apply Exists.intro; apply Exists.intro; refine And.intro ?_ ?_; rfl; refine And.intro ?_ ?_; rfl; refine And.intro ?_ ?_; exact Lw.o2_r Lw.o2_isB; refine And.intro ?_ ?_; intro c3; simp only [D.isBl, beq_self_eq_true] at c3; refine Lw.ss_cons ?_; refine Lw.sw_ret ?_; refine Lw.ew_and ?_; refine Lw.ew_callB L2.call_isi rfl (hb.get (by decide)) Lw.bb_isinstance ?_; refine Lw.aw_cons ?_; refine Lw.ew_var (i := 0) rfl (.inl rfl) rfl ?_; refine Lw.aw_cons ?_; refine Lw.ew_ty (n := "bool") (hb.get (by decide)) Lw.bb_bool ?_; refine Lw.aw_nil ?_; apply Exists.intro; apply Exists.intro; refine And.intro ?_ ?_; apply Lw.views_cons rfl; apply Lw.views_cons rfl; exact Lw.views_nil; refine And.intro ?_ ?_; exact Lw.on_isi (b := true) rfl rfl rfl; apply Exists.intro; refine And.intro ?_ ?_; rfl; refine And.intro ?_ ?_; intro c4; simp only at c4; refine Lw.ew_one ?_; refine Lw.ew_cmp (Lw.opr_or L2.op_eq (L2.op_eqD hr.units)) ?_; refine Lw.ew_var (i := 0) rfl (.inl rfl) rfl ?_; refine Lw.ew_var (i := 1) rfl (.inl rfl) rfl ?_; apply Exists.intro; apply Exists.intro; apply Exists.intro; refine And.intro ?_ ?_; rfl; refine And.intro ?_ ?_; rfl; refine And.intro ?_ ?_; exact Lw.o2_l Lw.o2_eqB; refine Exists.intro () ?_; refine And.intro ?_ ?_; refine And.intro ?_ ?_; rfl; exact True.intro; exact True.intro; intro c4; simp only [Bool.true_eq_false] at c4; intro c3; simp only [D.isBl, beq_self_eq_true, Bool.true_eq_false] at c3; intro c2; simp only [D.isBl, beq_iff_eq, Bool.false_eq_true] at c2)); (focus (refine Lw.ss_norm (Γ' := [_, _, _]) rfl ?_; refine Lw.ss_cons ?_; refine Lw.sw_if ?_; refine Lw.tw_cmp (Lw.opr_or L2.op_isN Lw.op_isBx) ?_; refine Lw.ew_var (i := 1) rfl (.inl rfl) rfl ?_; refine Lw.ew_non ?_; apply Exists.intro; apply Exists.intro; apply Exists.intro; refine And.intro ?_ ?_; rfl; refine And.intro ?_ ?_; rfl; refine And.intro ?_ ?_; exact Lw.o2_l Lw.o2_isN; refine And.intro ?_ ?_; intro c1; simp only [D.isNon, Bool.false_eq_true] at c1; intro c1; simp only [D.isNon] at c1; refine Lw.ss_nil ?_; refine Lw.ss_cons ?_; refine Lw.sw_if ?_; refine Lw.tw_pw ?_; refine Lw.ww_or ?_; refine Lw.tw_cmp (Lw.opr_or L2.op_isN Lw.op_isBx) ?_; refine Lw.ew_var (i := 1) rfl (.inl rfl) rfl ?_; refine Lw.ew_bl ?_; apply Exists.intro; apply Exists.intro; apply Exists.intro; refine And.intro ?_ ?_; rfl; refine And.intro ?_ ?_; rfl; refine And.intro ?_ ?_; exact Lw.o2_r Lw.o2_isB; refine And.intro ?_ ?_; intro c2; simp only [D.isBl] at c2; refine Lw.ww_or1 ?_; refine Lw.tw_cmp (Lw.opr_or L2.op_isN Lw.op_isBx) ?_; refine Lw.ew_var (i := 1) rfl (.inl rfl) rfl ?_; refine Lw.ew_bl ?_; apply Exists.intro; apply Exists.intro; apply Exists.intro; refine And.intro ?_ ?_; rfl; refine And.intro ?_ ?_; rfl; refine And.intro ?_ ?_; exact Lw.o2_r Lw.o2_isB; refine And.intro ?_ ?_; intro c3; simp only [D.isBl, beq_self_eq_true] at c3; refine Lw.ss_cons ?_; refine Lw.sw_ret ?_; refine Lw.ew_and ?_; refine Lw.ew_callB L2.call_isi rfl (hb.get (by decide)) Lw.bb_isinstance ?_; refine Lw.aw_cons ?_; refine Lw.ew_var (i := 0) rfl (.inl rfl) rfl ?_; refine Lw.aw_cons ?_; refine Lw.ew_ty (n := "bool") (hb.get (by decide)) Lw.bb_bool ?_; refine Lw.aw_nil ?_; apply Exists.intro; apply Exists.intro; refine And.intro ?_ ?_; apply Lw.views_cons rfl; apply Lw.views_cons rfl; exact Lw.views_nil; refine And.intro ?_ ?_; exact Lw.on_isi (b := false) rfl rfl rfl; apply Exists.intro; refine And.intro ?_ ?_; rfl; refine And.intro ?_ ?_; intro c4; simp only [Bool.false_eq_true] at c4; intro c4; simp only at c4; refine Exists.intro () ?_; refine And.intro ?_ ?_; refine And.intro ?_ ?_; rfl; exact True.intro; exact True.intro; intro c3; simp only [D.isBl, beq_self_eq_true, Bool.true_eq_false] at c3; intro c2; simp only [D.isBl, beq_iff_eq, Bool.false_eq_true] at c2)); (focus (refine Lw.ss_norm (Γ' := [_, _, _]) rfl ?_; refine Lw.ss_cons ?_; refine Lw.sw_if ?_; refine Lw.tw_cmp (Lw.opr_or L2.op_isN Lw.op_isBx) ?_; refine Lw.ew_var (i := 1) rfl (.inl rfl) rfl ?_; refine Lw.ew_non ?_; apply Exists.intro; apply Exists.intro; apply Exists.intro; refine And.intro ?_ ?_; rfl; refine And.intro ?_ ?_; rfl; refine And.intro ?_ ?_; exact Lw.o2_l Lw.o2_isN; refine And.intro ?_ ?_; intro c1; simp only [D.isNon, Bool.false_eq_true] at c1; intro c1; simp only [D.isNon] at c1; refine Lw.ss_nil ?_; refine Lw.ss_cons ?_; refine Lw.sw_if ?_; refine Lw.tw_pw ?_; refine Lw.ww_or ?_; refine Lw.tw_cmp (Lw.opr_or L2.op_isN Lw.op_isBx) ?_; refine Lw.ew_var (i := 1) rfl (.inl rfl) rfl ?_; refine Lw.ew_bl ?_; apply Exists.intro; apply Exists.intro; apply Exists.intro; refine And.intro ?_ ?_; rfl; refine And.intro ?_ ?_; rfl; refine And.intro ?_ ?_; exact Lw.o2_r Lw.o2_isB; refine And.intro ?_ ?_; intro c2; simp only [D.isBl] at c2; refine Lw.ww_or1 ?_; refine Lw.tw_cmp (Lw.opr_or L2.op_isN Lw.op_isBx) ?_; refine Lw.ew_var (i := 1) rfl (.inl rfl) rfl ?_; refine Lw.ew_bl ?_; apply Exists.intro; apply Exists.intro; apply Exists.intro; refine And.intro ?_ ?_; rfl; refine And.intro ?_ ?_; rfl; refine And.intro ?_ ?_; exact Lw.o2_r Lw.o2_isB; refine And.intro ?_ ?_; intro c3; simp only [D.isBl, beq_self_eq_true] at c3; refine Lw.ss_cons ?_; refine Lw.sw_ret ?_; refine Lw.ew_and ?_; refine Lw.ew_callB L2.call_isi rfl (hb.get (by decide)) Lw.bb_isinstance ?_; refine Lw.aw_cons ?_; refine Lw.ew_var (i := 0) rfl (.inl rfl) rfl ?_; refine Lw.aw_cons ?_; refine Lw.ew_ty (n := "bool") (hb.get (by decide)) Lw.bb_bool ?_; refine Lw.aw_nil ?_; apply Exists.intro; apply Exists.intro; refine And.intro ?_ ?_; apply Lw.views_cons rfl; apply Lw.views_cons rfl; exact Lw.views_nil; refine And.intro ?_ ?_; exact Lw.on_isi (b := false) rfl rfl rfl; apply Exists.intro; refine And.intro ?_ ?_; rfl; refine And.intro ?_ ?_; intro c4; simp only [Bool.false_eq_true] at c4; intro c4; simp only at c4; refine Exists.intro () ?_; refine And.intro ?_ ?_; refine And.intro ?_ ?_; rfl; exact True.intro; exact True.intro; intro c3; simp only [D.isBl, beq_self_eq_true, Bool.true_eq_false] at c3; intro c2; simp only [D.isBl, beq_iff_eq, Bool.false_eq_true] at c2)); (focus (refine Lw.ss_norm (Γ' := [_, _, _]) rfl ?_; refine Lw.ss_cons ?_; refine Lw.sw_if ?_; refine Lw.tw_cmp (Lw.opr_or L2.op_isN Lw.op_isBx) ?_; refine Lw.ew_var (i := 1) rfl (.inl rfl) rfl ?_; refine Lw.ew_non ?_; apply Exists.intro; apply Exists.intro; apply Exists.intro; refine And.intro ?_ ?_; rfl; refine And.intro ?_ ?_; rfl; refine And.intro ?_ ?_; exact Lw.o2_l Lw.o2_isN; refine And.intro ?_ ?_; intro c1; simp only [D.isNon, Bool.false_eq_true] at c1; intro c1; simp only [D.isNon] at c1; refine Lw.ss_nil ?_; refine Lw.ss_cons ?_; refine Lw.sw_if ?_; refine Lw.tw_pw ?_; refine Lw.ww_or ?_; refine Lw.tw_cmp (Lw.opr_or L2.op_isN Lw.op_isBx) ?_; refine Lw.ew_var (i := 1) rfl (.inl rfl) rfl ?_; refine Lw.ew_bl ?_; apply Exists.intro; apply Exists.intro; apply Exists.intro; refine And.intro ?_ ?_; rfl; refine And.intro ?_ ?_; rfl; refine And.intro ?_ ?_; exact Lw.o2_r Lw.o2_isB; refine And.intro ?_ ?_; intro c2; simp only [D.isBl, beq_self_eq_true, Bool.true_eq_false] at c2; intro c2; simp only [D.isBl, beq_self_eq_true] at c2; refine And.intro ?_ ?_; intro c3; simp only at c3; refine Lw.ss_cons ?_; refine Lw.sw_ret ?_; refine Lw.ew_and ?_; refine Lw.ew_callB L2.call_isi rfl (hb.get (by decide)) Lw.bb_isinstance ?_; refine Lw.aw_cons ?_; refine Lw.ew_var (i := 0) rfl (.inl rfl) rfl ?_; refine Lw.aw_cons ?_; refine Lw.ew_ty (n := "bool") (hb.get (by decide)) Lw.bb_bool ?_; refine Lw.aw_nil ?_; apply Exists.intro; apply Exists.intro; refine And.intro ?_ ?_; apply Lw.views_cons rfl; apply Lw.views_cons rfl; exact Lw.views_nil; refine And.intro ?_ ?_; exact Lw.on_isi (b := false) rfl rfl rfl; apply Exists.intro; refine And.intro ?_ ?_; rfl; refine And.intro ?_ ?_; intro c4; simp only [Bool.false_eq_true] at c4; intro c4; simp only at c4; refine Exists.intro () ?_; refine And.intro ?_ ?_; refine And.intro ?_ ?_; rfl; exact True.intro; exact True.intro; intro c3; simp only [Bool.true_eq_false] at c3)); (focus (refine Lw.ss_norm (Γ' := [_, _, _]) rfl ?_; refine Lw.ss_cons ?_; refine Lw.sw_if ?_; refine Lw.tw_cmp (Lw.opr_or L2.op_isN Lw.op_isBx) ?_; refine Lw.ew_var (i := 1) rfl (.inl rfl) rfl ?_; refine Lw.ew_non ?_; apply Exists.intro; apply Exists.intro; apply Exists.intro; refine And.intro ?_ ?_; rfl; refine And.intro ?_ ?_; rfl; refine And.intro ?_ ?_; exact Lw.o2_l Lw.o2_isN; refine And.intro ?_ ?_; intro c1; simp only [D.isNon, Bool.false_eq_true] at c1; intro c1; simp only [D.isNon] at c1; refine Lw.ss_nil ?_; refine Lw.ss_cons ?_; refine Lw.sw_if ?_; refine Lw.tw_pw ?_; refine Lw.ww_or ?_; refine Lw.tw_cmp (Lw.opr_or L2.op_isN Lw.op_isBx) ?_; refine Lw.ew_var (i := 1) rfl (.inl rfl) rfl ?_; refine Lw.ew_bl ?_; apply Exists.intro; apply Exists.intro; apply Exists.intro; refine And.intro ?_ ?_; rfl; refine And.intro ?_ ?_; rfl; refine And.intro ?_ ?_; exact Lw.o2_r Lw.o2_isB; refine And.intro ?_ ?_; intro c2; simp only [D.isBl, beq_self_eq_true, Bool.true_eq_false] at c2; intro c2; simp only [D.isBl, beq_self_eq_true] at c2; refine And.intro ?_ ?_; intro c3; simp only at c3; refine Lw.ss_cons ?_; refine Lw.sw_ret ?_; refine Lw.ew_and ?_; refine Lw.ew_callB L2.call_isi rfl (hb.get (by decide)) Lw.bb_isinstance ?_; refine Lw.aw_cons ?_; refine Lw.ew_var (i := 0) rfl (.inl rfl) rfl ?_; refine Lw.aw_cons ?_; refine Lw.ew_ty (n := "bool") (hb.get (by decide)) Lw.bb_bool ?_; refine Lw.aw_nil ?_; apply Exists.intro; apply Exists.intro; refine And.intro ?_ ?_; apply Lw.views_cons rfl; apply Lw.views_cons rfl; exact Lw.views_nil; refine And.intro ?_ ?_; exact Lw.on_isi (b := true) rfl rfl rfl; apply Exists.intro; refine And.intro ?_ ?_; rfl; refine And.intro ?_ ?_; intro c4; simp only at c4; refine Lw.ew_one ?_; refine Lw.ew_cmp (Lw.opr_or L2.op_eq (L2.op_eqD hr.units)) ?_; refine Lw.ew_var (i := 0) rfl (.inl rfl) rfl ?_; refine Lw.ew_var (i := 1) rfl (.inl rfl) rfl ?_; apply Exists.intro; apply Exists.intro; apply Exists.intro; refine And.intro ?_ ?_; rfl; refine And.intro ?_ ?_; rfl; refine And.intro ?_ ?_; exact Lw.o2_l Lw.o2_eqB; refine Exists.intro () ?_; refine And.intro ?_ ?_; refine And.intro ?_ ?_; rfl; exact True.intro; exact True.intro; intro c4; simp only [Bool.true_eq_false] at c4; intro c3; simp only [Bool.true_eq_false] at c3)); (focus (refine Lw.ss_norm (Γ' := [_, _, _]) rfl ?_; refine Lw.ss_cons ?_; refine Lw.sw_if ?_; refine Lw.tw_cmp (Lw.opr_or L2.op_isN Lw.op_isBx) ?_; refine Lw.ew_var (i := 1) rfl (.inl rfl) rfl ?_; refine Lw.ew_non ?_; apply Exists.intro; apply Exists.intro; apply Exists.intro; refine And.intro ?_ ?_; rfl; refine And.intro ?_ ?_; rfl; refine And.intro ?_ ?_; exact Lw.o2_l Lw.o2_isN; refine And.intro ?_ ?_; intro c1; simp only [D.isNon, Bool.false_eq_true] at c1; intro c1; simp only [D.isNon] at c1; refine Lw.ss_nil ?_; refine Lw.ss_cons ?_; refine Lw.sw_if ?_; refine Lw.tw_pw ?_; refine Lw.ww_or ?_; refine Lw.tw_cmp (Lw.opr_or L2.op_isN Lw.op_isBx) ?_; refine Lw.ew_var (i := 1) rfl (.inl rfl) rfl ?_; refine Lw.ew_bl ?_; apply Exists.intro; apply Exists.intro; apply Exists.intro; refine And.intro ?_ ?_; rfl; refine And.intro ?_ ?_; rfl; refine And.intro ?_ ?_; exact Lw.o2_r Lw.o2_isB; refine And.intro ?_ ?_; intro c2; simp only [D.isBl, beq_self_eq_true, Bool.true_eq_false] at c2; intro c2; simp only [D.isBl, beq_self_eq_true] at c2; refine And.intro ?_ ?_; intro c3; simp only at c3; refine Lw.ss_cons ?_; refine Lw.sw_ret ?_; refine Lw.ew_and ?_; refine Lw.ew_callB L2.call_isi rfl (hb.get (by decide)) Lw.bb_isinstance ?_; refine Lw.aw_cons ?_; refine Lw.ew_var (i := 0) rfl (.inl rfl) rfl ?_; refine Lw.aw_cons ?_; refine Lw.ew_ty (n := "bool") (hb.get (by decide)) Lw.bb_bool ?_; refine Lw.aw_nil ?_; apply Exists.intro; apply Exists.intro; refine And.intro ?_ ?_; apply Lw.views_cons rfl; apply Lw.views_cons rfl; exact Lw.views_nil; refine And.intro ?_ ?_; exact Lw.on_isi (b := false) rfl rfl rfl; apply Exists.intro; refine And.intro ?_ ?_; rfl; refine And.intro ?_ ?_; intro c4; simp only [Bool.false_eq_true] at c4; intro c4; simp only at c4; refine Exists.intro () ?_; refine And.intro ?_ ?_; refine And.intro ?_ ?_; rfl; exact True.intro; exact True.intro; intro c3; simp only [Bool.true_eq_false] at c3)); (focus (refine Lw.ss_norm (Γ' := [_, _, _]) rfl ?_; refine Lw.ss_cons ?_; refine Lw.sw_if ?_; refine Lw.tw_cmp (Lw.opr_or L2.op_isN Lw.op_isBx) ?_; refine Lw.ew_var (i := 1) rfl (.inl rfl) rfl ?_; refine Lw.ew_non ?_; apply Exists.intro; apply Exists.intro; apply Exists.intro; refine And.intro ?_ ?_; rfl; refine And.intro ?_ ?_; rfl; refine And.intro ?_ ?_; exact Lw.o2_l Lw.o2_isN; refine And.intro ?_ ?_; intro c1; simp only [D.isNon, Bool.false_eq_true] at c1; intro c1; simp only [D.isNon] at c1; refine Lw.ss_nil ?_; refine Lw.ss_cons ?_; refine Lw.sw_if ?_; refine Lw.tw_pw ?_; refine Lw.ww_or ?_; refine Lw.tw_cmp (Lw.opr_or L2.op_isN Lw.op_isBx) ?_; refine Lw.ew_var (i := 1) rfl (.inl rfl) rfl ?_; refine Lw.ew_bl ?_; apply Exists.intro; apply Exists.intro; apply Exists.intro; refine And.intro ?_ ?_; rfl; refine And.intro ?_ ?_; rfl; refine And.intro ?_ ?_; exact Lw.o2_r Lw.o2_isB; refine And.intro ?_ ?_; intro c2; simp only [D.isBl, beq_self_eq_true, Bool.true_eq_false] at c2; intro c2; simp only [D.isBl, beq_self_eq_true] at c2; refine And.intro ?_ ?_; intro c3; simp only at c3; refine Lw.ss_cons ?_; refine Lw.sw_ret ?_; refine Lw.ew_and ?_; refine Lw.ew_callB L2.call_isi rfl (hb.get (by decide)) Lw.bb_isinstance ?_; refine Lw.aw_cons ?_; refine Lw.ew_var (i := 0) rfl (.inl rfl) rfl ?_; refine Lw.aw_cons ?_; refine Lw.ew_ty (n := "bool") (hb.get (by decide)) Lw.bb_bool ?_; refine Lw.aw_nil ?_; apply Exists.intro; apply Exists.intro; refine And.intro ?_ ?_; apply Lw.views_cons rfl; apply Lw.views_cons rfl; exact Lw.views_nil; refine And.intro ?_ ?_; exact Lw.on_isi (b := false) rfl rfl rfl; apply Exists.intro; refine And.intro ?_ ?_; rfl; refine And.intro ?_ ?_; intro c4; simp only [Bool.false_eq_true] at c4; intro c4; simp only at c4; refine Exists.intro () ?_; refine And.intro ?_ ?_; refine And.intro ?_ ?_; rfl; exact True.intro; exact True.intro; intro c3; simp only [Bool.true_eq_false] at c3)))
    all_goals simp [sameD]
  | non =>
    (cases g <;> first | (simp [okN] at hk; done) | skip)
    ((focus (refine Lw.ss_norm (Γ' := [_, _, _]) rfl ?_; refine Lw.ss_cons ?_; refine Lw.sw_if ?_; refine Lw.tw_cmp (Lw.opr_or L2.op_isN Lw.op_isBx) ?_; refine Lw.ew_var (i := 1) rfl (.inl rfl) rfl ?_; refine Lw.ew_non ?_; apply Exists.intro; apply Exists.intro; apply Exists.intro; refine And.intro ?_ ?_; rfl; refine And.intro ?_ ?_; rfl; refine And.intro ?_ ?_; exact Lw.o2_l Lw.o2_isN; refine And.intro ?_ ?_; intro c1; simp only [D.isNon] at c1; refine Lw.ss_cons ?_; refine Lw.sw_ret ?_; refine Lw.ew_cmp (Lw.opr_or L2.op_isN Lw.op_isBx) ?_; refine Lw.ew_var (i := 0) rfl (.inl rfl) rfl ?_; refine Lw.ew_non ?_; apply Exists.intro; apply Exists.intro; apply Exists.intro; refine And.intro ?_ ?_; rfl; refine And.intro ?_ ?_; rfl; refine And.intro ?_ ?_; exact Lw.o2_l Lw.o2_isN; refine Exists.intro () ?_; refine And.intro ?_ ?_; refine And.intro ?_ ?_; rfl; exact True.intro; exact True.intro; intro c1; simp only [D.isNon, Bool.true_eq_false] at c1)); (focus (refine Lw.ss_norm (Γ' := [_, _, _]) rfl ?_; refine Lw.ss_cons ?_; refine Lw.sw_if ?_; refine Lw.tw_cmp (Lw.opr_or L2.op_isN Lw.op_isBx) ?_; refine Lw.ew_var (i := 1) rfl (.inl rfl) rfl ?_; refine Lw.ew_non ?_; apply Exists.intro; apply Exists.intro; apply Exists.intro; refine And.intro ?_ ?_; rfl; refine And.intro ?_ ?_; rfl; refine And.intro ?_ ?_; exact Lw.o2_l Lw.o2_isN; refine And.intro ?_ ?_; intro c1; simp only [D.isNon] at c1; refine Lw.ss_cons ?_; refine Lw.sw_ret ?_; refine Lw.ew_cmp (Lw.opr_or L2.op_isN Lw.op_isBx) ?_; refine Lw.ew_var (i := 0) rfl (.inl rfl) rfl ?_; refine Lw.ew_non ?_; apply Exists.intro; apply Exists.intro; apply Exists.intro; refine And.intro ?_ ?_; rfl; refine And.intro ?_ ?_; rfl; refine And.intro ?_ ?_; exact Lw.o2_l Lw.o2_isN; refine Exists.intro () ?_; refine And.intro ?_ ?_; refine And.intro ?_ ?_; rfl; exact True.intro; exact True.intro; intro c1; simp only [D.isNon, Bool.true_eq_false] at c1)); (focus (refine Lw.ss_norm (Γ' := [_, _, _]) rfl ?_; refine Lw.ss_cons ?_; refine Lw.sw_if ?_; refine Lw.tw_cmp (Lw.opr_or L2.op_isN Lw.op_isBx) ?_; refine Lw.ew_var (i := 1) rfl (.inl rfl) rfl ?_; refine Lw.ew_non ?_; apply Exists.intro; apply Exists.intro; apply Exists.intro; refine And.intro ?_ ?_; rfl; refine And.intro ?_ ?_; rfl; refine And.intro ?_ ?_; exact Lw.o2_l Lw.o2_isN; refine And.intro ?_ ?_; intro c1; simp only [D.isNon] at c1; refine Lw.ss_cons ?_; refine Lw.sw_ret ?_; refine Lw.ew_cmp (Lw.opr_or L2.op_isN Lw.op_isBx) ?_; refine Lw.ew_var (i := 0) rfl (.inl rfl) rfl ?_; refine Lw.ew_non ?_; apply Exists.intro; apply Exists.intro; apply Exists.intro; refine And.intro ?_ ?_; rfl; refine And.intro ?_ ?_; rfl; refine And.intro ?_ ?_; exact Lw.o2_l Lw.o2_isN; refine Exists.intro () ?_; refine And.intro ?_ ?_; refine And.intro ?_ ?_; rfl; exact True.intro; exact True.intro; intro c1; simp only [D.isNon, Bool.true_eq_false] at c1)); (focus (refine Lw.ss_norm (Γ' := [_, _, _]) rfl ?_; refine Lw.ss_cons ?_; refine Lw.sw_if ?_; refine Lw.tw_cmp (Lw.opr_or L2.op_isN Lw.op_isBx) ?_; refine Lw.ew_var (i := 1) rfl (.inl rfl) rfl ?_; refine Lw.ew_non ?_; apply Exists.intro; apply Exists.intro; apply Exists.intro; refine And.intro ?_ ?_; rfl; refine And.intro ?_ ?_; rfl; refine And.intro ?_ ?_; exact Lw.o2_l Lw.o2_isN; refine And.intro ?_ ?_; intro c1; simp only [D.isNon] at c1; refine Lw.ss_cons ?_; refine Lw.sw_ret ?_; refine Lw.ew_cmp (Lw.opr_or L2.op_isN Lw.op_isBx) ?_; refine Lw.ew_var (i := 0) rfl (.inl rfl) rfl ?_; refine Lw.ew_non ?_; apply Exists.intro; apply Exists.intro; apply Exists.intro; refine And.intro ?_ ?_; rfl; refine And.intro ?_ ?_; rfl; refine And.intro ?_ ?_; exact Lw.o2_l Lw.o2_isN; refine Exists.intro () ?_; refine And.intro ?_ ?_; refine And.intro ?_ ?_; rfl; exact True.intro; exact True.intro; intro c1; simp only [D.isNon, Bool.true_eq_false] at c1)))
    all_goals simp [sameD]
  | int b =>
    (cases g <;> first | (simp [okN] at hk; done) | skip)
    ((focus (refine Lw.ss_norm (Γ' := [_, _, _]) rfl ?_; refine Lw.ss_cons ?_; refine Lw.sw_if ?_; refine Lw.tw_cmp (Lw.opr_or L2.op_isN Lw.op_isBx) ?_; refine Lw.ew_var (i := 1) rfl (.inl rfl) rfl ?_; refine Lw.ew_non ?_; apply Exists.intro; apply Exists.intro; apply Exists.intro; refine And.intro ?_ ?_; rfl; refine And.intro ?_ ?_; rfl; refine And.intro ?_ ?_; exact Lw.o2_l Lw.o2_isN; refine And.intro ?_ ?_; intro c1; simp only [D.isNon, Bool.false_eq_true] at c1; intro c1; simp only [D.isNon] at c1; refine Lw.ss_nil ?_; refine Lw.ss_cons ?_; refine Lw.sw_if ?_; refine Lw.tw_pw ?_; refine Lw.ww_or ?_; refine Lw.tw_cmp (Lw.opr_or L2.op_isN Lw.op_isBx) ?_; refine Lw.ew_var (i := 1) rfl (.inl rfl) rfl ?_; refine Lw.ew_bl ?_; apply Exists.intro; apply Exists.intro; apply Exists.intro; refine And.intro ?_ ?_; rfl; refine And.intro ?_ ?_; rfl; refine And.intro ?_ ?_; exact Lw.o2_r Lw.o2_isB; refine And.intro ?_ ?_; intro c2; simp only [D.isBl] at c2; refine Lw.ww_or1 ?_; refine Lw.tw_cmp (Lw.opr_or L2.op_isN Lw.op_isBx) ?_; refine Lw.ew_var (i := 1) rfl (.inl rfl) rfl ?_; refine Lw.ew_bl ?_; apply Exists.intro; apply Exists.intro; apply Exists.intro; refine And.intro ?_ ?_; rfl; refine And.intro ?_ ?_; rfl; refine And.intro ?_ ?_; exact Lw.o2_r Lw.o2_isB; refine And.intro ?_ ?_; intro c3; simp only [D.isBl, Bool.false_eq_true] at c3; intro c3; simp only [D.isBl] at c3; refine Lw.ss_nil ?_; refine Lw.ss_cons ?_; refine Lw.sw_if ?_; refine Lw.tw_val ?_; refine Lw.ew_callB L2.call_isi rfl (hb.get (by decide)) Lw.bb_isinstance ?_; refine Lw.aw_cons ?_; refine Lw.ew_var (i := 1) rfl (.inl rfl) rfl ?_; refine Lw.aw_cons ?_; refine Lw.ew_ty (n := "int") (hb.get (by decide)) Lw.bb_int ?_; refine Lw.aw_nil ?_; apply Exists.intro; apply Exists.intro; refine And.intro ?_ ?_; apply Lw.views_cons rfl; apply Lw.views_cons rfl; exact Lw.views_nil; refine And.intro ?_ ?_; exact Lw.on_isi (b := true) rfl rfl rfl; apply Exists.intro; apply Exists.intro; refine And.intro ?_ ?_; rfl; refine And.intro ?_ ?_; rfl; refine And.intro ?_ ?_; intro c4; simp only at c4; refine Lw.ss_cons ?_; refine Lw.sw_ret ?_; refine Lw.ew_and ?_; refine Lw.ew_call d1 hr tk ?_; refine Lw.aw_cons ?_; refine Lw.ew_var (i := 0) rfl (.inl rfl) rfl ?_; refine Lw.aw_nil ?_; apply Lw.callPost_1; refine And.intro ?_ ?_; refine And.intro ?_ ?_; rfl; exact True.intro; refine And.intro ?_ ?_; assumption; refine And.intro ?_ ?_; dsimp only [Tst.cIsInt, Lw.Ct.det]; assumption; rintro ⟨⟩ -; refine And.intro ?_ ?_; rfl; refine Lw.outP_eq rfl ?_; apply Exists.intro; refine And.intro ?_ ?_; rfl; refine And.intro ?_ ?_; intro c5; simp only [Bool.false_eq_true] at c5; intro c5; simp only at c5; refine Exists.intro () ?_; refine And.intro ?_ ?_; refine And.intro ?_ ?_; rfl; exact True.intro; exact True.intro; intro c4; simp only [Bool.true_eq_false] at c4; intro c2; simp only [D.isBl, Bool.false_eq_true] at c2)); (focus (refine Lw.ss_norm (Γ' := [_, _, _]) rfl ?_; refine Lw.ss_cons ?_; refine Lw.sw_if ?_; refine Lw.tw_cmp (Lw.opr_or L2.op_isN Lw.op_isBx) ?_; refine Lw.ew_var (i := 1) rfl (.inl rfl) rfl ?_; refine Lw.ew_non ?_; apply Exists.intro; apply Exists.intro; apply Exists.intro; refine And.intro ?_ ?_; rfl; refine And.intro ?_ ?_; rfl; refine And.intro ?_ ?_; exact Lw.o2_l Lw.o2_isN; refine And.intro ?_ ?_; intro c1; simp only [D.isNon, Bool.false_eq_true] at c1; intro c1; simp only [D.isNon] at c1; refine Lw.ss_nil ?_; refine Lw.ss_cons ?_; refine Lw.sw_if ?_; refine Lw.tw_pw ?_; refine Lw.ww_or ?_; refine Lw.tw_cmp (Lw.opr_or L2.op_isN Lw.op_isBx) ?_; refine Lw.ew_var (i := 1) rfl (.inl rfl) rfl ?_; refine Lw.ew_bl ?_; apply Exists.intro; apply Exists.intro; apply Exists.intro; refine And.intro ?_ ?_; rfl; refine And.intro ?_ ?_; rfl; refine And.intro ?_ ?_; exact Lw.o2_r Lw.o2_isB; refine And.intro ?_ ?_; intro c2; simp only [D.isBl] at c2; refine Lw.ww_or1 ?_; refine Lw.tw_cmp (Lw.opr_or L2.op_isN Lw.op_isBx) ?_; refine Lw.ew_var (i := 1) rfl (.inl rfl) rfl ?_; refine Lw.ew_bl ?_; apply Exists.intro; apply Exists.intro; apply Exists.intro; refine And.intro ?_ ?_; rfl; refine And.intro ?_ ?_; rfl; refine And.intro ?_ ?_; exact Lw.o2_r Lw.o2_isB; refine And.intro ?_ ?_; intro c3; simp only [D.isBl, Bool.false_eq_true] at c3; intro c3; simp only [D.isBl] at c3; refine Lw.ss_nil ?_; refine Lw.ss_cons ?_; refine Lw.sw_if ?_; refine Lw.tw_val ?_; refine Lw.ew_callB L2.call_isi rfl (hb.get (by decide)) Lw.bb_isinstance ?_; refine Lw.aw_cons ?_; refine Lw.ew_var (i := 1) rfl (.inl rfl) rfl ?_; refine Lw.aw_cons ?_; refine Lw.ew_ty (n := "int") (hb.get (by decide)) Lw.bb_int ?_; refine Lw.aw_nil ?_; apply Exists.intro; apply Exists.intro; refine And.intro ?_ ?_; apply Lw.views_cons rfl; apply Lw.views_cons rfl; exact Lw.views_nil; refine And.intro ?_ ?_; exact Lw.on_isi (b := true) rfl rfl rfl; apply Exists.intro; apply Exists.intro; refine And.intro ?_ ?_; rfl; refine And.intro ?_ ?_; rfl; refine And.intro ?_ ?_; intro c4; simp only at c4; refine Lw.ss_cons ?_; refine Lw.sw_ret ?_; refine Lw.ew_and ?_; refine Lw.ew_call d1 hr tk ?_; refine Lw.aw_cons ?_; refine Lw.ew_var (i := 0) rfl (.inl rfl) rfl ?_; refine Lw.aw_nil ?_; apply Lw.callPost_1; refine And.intro ?_ ?_; refine And.intro ?_ ?_; rfl; exact True.intro; refine And.intro ?_ ?_; assumption; refine And.intro ?_ ?_; dsimp only [Tst.cIsInt, Lw.Ct.det]; assumption; rintro ⟨⟩ -; refine And.intro ?_ ?_; rfl; refine Lw.outP_eq rfl ?_; apply Exists.intro; refine And.intro ?_ ?_; rfl; refine And.intro ?_ ?_; intro c5; simp only [Bool.false_eq_true] at c5; intro c5; simp only at c5; refine Exists.intro () ?_; refine And.intro ?_ ?_; refine And.intro ?_ ?_; rfl; exact True.intro; exact True.intro; intro c4; simp only [Bool.true_eq_false] at c4; intro c2; simp only [D.isBl, Bool.false_eq_true] at c2)); (focus (refine Lw.ss_norm (Γ' := [_, _, _]) rfl ?_; refine Lw.ss_cons ?_; refine Lw.sw_if ?_; refine Lw.tw_cmp (Lw.opr_or L2.op_isN Lw.op_isBx) ?_; refine Lw.ew_var (i := 1) rfl (.inl rfl) rfl ?_; refine Lw.ew_non ?_; apply Exists.intro; apply Exists.intro; apply Exists.intro; refine And.intro ?_ ?_; rfl; refine And.intro ?_ ?_; rfl; refine And.intro ?_ ?_; exact Lw.o2_l Lw.o2_isN; refine And.intro ?_ ?_; intro c1; simp only [D.isNon, Bool.false_eq_true] at c1; intro c1; simp only [D.isNon] at c1; refine Lw.ss_nil ?_; refine Lw.ss_cons ?_; refine Lw.sw_if ?_; refine Lw.tw_pw ?_; refine Lw.ww_or ?_; refine Lw.tw_cmp (Lw.opr_or L2.op_isN Lw.op_isBx) ?_; refine Lw.ew_var (i := 1) rfl (.inl rfl) rfl ?_; refine Lw.ew_bl ?_; apply Exists.intro; apply Exists.intro; apply Exists.intro; refine And.intro ?_ ?_; rfl; refine And.intro ?_ ?_; rfl; refine And.intro ?_ ?_; exact Lw.o2_r Lw.o2_isB; refine And.intro ?_ ?_; intro c2; simp only [D.isBl] at c2; refine Lw.ww_or1 ?_; refine Lw.tw_cmp (Lw.opr_or L2.op_isN Lw.op_isBx) ?_; refine Lw.ew_var (i := 1) rfl (.inl rfl) rfl ?_; refine Lw.ew_bl ?_; apply Exists.intro; apply Exists.intro; apply Exists.intro; refine And.intro ?_ ?_; rfl; refine And.intro ?_ ?_; rfl; refine And.intro ?_ ?_; exact Lw.o2_r Lw.o2_isB; refine And.intro ?_ ?_; intro c3; simp only [D.isBl, Bool.false_eq_true] at c3; intro c3; simp only [D.isBl] at c3; refine Lw.ss_nil ?_; refine Lw.ss_cons ?_; refine Lw.sw_if ?_; refine Lw.tw_val ?_; refine Lw.ew_callB L2.call_isi rfl (hb.get (by decide)) Lw.bb_isinstance ?_; refine Lw.aw_cons ?_; refine Lw.ew_var (i := 1) rfl (.inl rfl) rfl ?_; refine Lw.aw_cons ?_; refine Lw.ew_ty (n := "int") (hb.get (by decide)) Lw.bb_int ?_; refine Lw.aw_nil ?_; apply Exists.intro; apply Exists.intro; refine And.intro ?_ ?_; apply Lw.views_cons rfl; apply Lw.views_cons rfl; exact Lw.views_nil; refine And.intro ?_ ?_; exact Lw.on_isi (b := true) rfl rfl rfl; apply Exists.intro; apply Exists.intro; refine And.intro ?_ ?_; rfl; refine And.intro ?_ ?_; rfl; refine And.intro ?_ ?_; intro c4; simp only at c4; refine Lw.ss_cons ?_; refine Lw.sw_ret ?_; refine Lw.ew_and ?_; refine Lw.ew_call d1 hr tk ?_; refine Lw.aw_cons ?_; refine Lw.ew_var (i := 0) rfl (.inl rfl) rfl ?_; refine Lw.aw_nil ?_; apply Lw.callPost_1; refine And.intro ?_ ?_; refine And.intro ?_ ?_; rfl; exact True.intro; refine And.intro ?_ ?_; assumption; refine And.intro ?_ ?_; dsimp only [Tst.cIsInt, Lw.Ct.det]; assumption; rintro ⟨⟩ -; refine And.intro ?_ ?_; rfl; refine Lw.outP_eq rfl ?_; apply Exists.intro; refine And.intro ?_ ?_; rfl; refine And.intro ?_ ?_; intro c5; simp only at c5; refine Lw.ew_one ?_; refine Lw.ew_cmp (Lw.opr_or L2.op_eq (L2.op_eqD hr.units)) ?_; refine Lw.ew_var (i := 0) rfl (.inl rfl) rfl ?_; refine Lw.ew_var (i := 1) rfl (.inl rfl) rfl ?_; apply Exists.intro; apply Exists.intro; apply Exists.intro; refine And.intro ?_ ?_; rfl; refine And.intro ?_ ?_; rfl; refine And.intro ?_ ?_; exact Lw.o2_l Lw.o2_eqI; refine Exists.intro () ?_; refine And.intro ?_ ?_; refine And.intro ?_ ?_; rfl; exact True.intro; exact True.intro; intro c5; simp only [Bool.true_eq_false] at c5; intro c4; simp only [Bool.true_eq_false] at c4; intro c2; simp only [D.isBl, Bool.false_eq_true] at c2)); (focus (refine Lw.ss_norm (Γ' := [_, _, _]) rfl ?_; refine Lw.ss_cons ?_; refine Lw.sw_if ?_; refine Lw.tw_cmp (Lw.opr_or L2.op_isN Lw.op_isBx) ?_; refine Lw.ew_var (i := 1) rfl (.inl rfl) rfl ?_; refine Lw.ew_non ?_; apply Exists.intro; apply Exists.intro; apply Exists.intro; refine And.intro ?_ ?_; rfl; refine And.intro ?_ ?_; rfl; refine And.intro ?_ ?_; exact Lw.o2_l Lw.o2_isN; refine And.intro ?_ ?_; intro c1; simp only [D.isNon, Bool.false_eq_true] at c1; intro c1; simp only [D.isNon] at c1; refine Lw.ss_nil ?_; refine Lw.ss_cons ?_; refine Lw.sw_if ?_; refine Lw.tw_pw ?_; refine Lw.ww_or ?_; refine Lw.tw_cmp (Lw.opr_or L2.op_isN Lw.op_isBx) ?_; refine Lw.ew_var (i := 1) rfl (.inl rfl) rfl ?_; refine Lw.ew_bl ?_; apply Exists.intro; apply Exists.intro; apply Exists.intro; refine And.intro ?_ ?_; rfl; refine And.intro ?_ ?_; rfl; refine And.intro ?_ ?_; exact Lw.o2_r Lw.o2_isB; refine And.intro ?_ ?_; intro c2; simp only [D.isBl] at c2; refine Lw.ww_or1 ?_; refine Lw.tw_cmp (Lw.opr_or L2.op_isN Lw.op_isBx) ?_; refine Lw.ew_var (i := 1) rfl (.inl rfl) rfl ?_; refine Lw.ew_bl ?_; apply Exists.intro; apply Exists.intro; apply Exists.intro; refine And.intro ?_ ?_; rfl; refine And.intro ?_ ?_; rfl; refine And.intro ?_ ?_; exact Lw.o2_r Lw.o2_isB; refine And.intro ?_ ?_; intro c3; simp only [D.isBl, Bool.false_eq_true] at c3; intro c3; simp only [D.isBl] at c3; refine Lw.ss_nil ?_; refine Lw.ss_cons ?_; refine Lw.sw_if ?_; refine Lw.tw_val ?_; refine Lw.ew_callB L2.call_isi rfl (hb.get (by decide)) Lw.bb_isinstance ?_; refine Lw.aw_cons ?_; refine Lw.ew_var (i := 1) rfl (.inl rfl) rfl ?_; refine Lw.aw_cons ?_; refine Lw.ew_ty (n := "int") (hb.get (by decide)) Lw.bb_int ?_; refine Lw.aw_nil ?_; apply Exists.intro; apply Exists.intro; refine And.intro ?_ ?_; apply Lw.views_cons rfl; apply Lw.views_cons rfl; exact Lw.views_nil; refine And.intro ?_ ?_; exact Lw.on_isi (b := true) rfl rfl rfl; apply Exists.intro; apply Exists.intro; refine And.intro ?_ ?_; rfl; refine And.intro ?_ ?_; rfl; refine And.intro ?_ ?_; intro c4; simp only at c4; refine Lw.ss_cons ?_; refine Lw.sw_ret ?_; refine Lw.ew_and ?_; refine Lw.ew_call d1 hr tk ?_; refine Lw.aw_cons ?_; refine Lw.ew_var (i := 0) rfl (.inl rfl) rfl ?_; refine Lw.aw_nil ?_; apply Lw.callPost_1; refine And.intro ?_ ?_; refine And.intro ?_ ?_; rfl; exact True.intro; refine And.intro ?_ ?_; assumption; refine And.intro ?_ ?_; dsimp only [Tst.cIsInt, Lw.Ct.det]; assumption; rintro ⟨⟩ -; refine And.intro ?_ ?_; rfl; refine Lw.outP_eq rfl ?_; apply Exists.intro; refine And.intro ?_ ?_; rfl; refine And.intro ?_ ?_; intro c5; simp only [Bool.false_eq_true] at c5; intro c5; simp only at c5; refine Exists.intro () ?_; refine And.intro ?_ ?_; refine And.intro ?_ ?_; rfl; exact True.intro; exact True.intro; intro c4; simp only [Bool.true_eq_false] at c4; intro c2; simp only [D.isBl, Bool.false_eq_true] at c2)))
    all_goals first | (simp [sameD]; done) | trace_state
  | str b =>
    (cases g <;> first | (simp [okN] at hk; done) | skip)
    ((focus (refine Lw.ss_norm (Γ' := [_, _, _]) rfl ?_; refine Lw.ss_cons ?_; refine Lw.sw_if ?_; refine Lw.tw_cmp (Lw.opr_or L2.op_isN Lw.op_isBx) ?_; refine Lw.ew_var (i := 1) rfl (.inl rfl) rfl ?_; refine Lw.ew_non ?_; apply Exists.intro; apply Exists.intro; apply Exists.intro; refine And.intro ?_ ?_; rfl; refine And.intro ?_ ?_; rfl; refine And.intro ?_ ?_; exact Lw.o2_l Lw.o2_isN; refine And.intro ?_ ?_; intro c1; simp only [D.isNon, Bool.false_eq_true] at c1; intro c1; simp only [D.isNon] at c1; refine Lw.ss_nil ?_; refine Lw.ss_cons ?_; refine Lw.sw_if ?_; refine Lw.tw_pw ?_; refine Lw.ww_or ?_; refine Lw.tw_cmp (Lw.opr_or L2.op_isN Lw.op_isBx) ?_; refine Lw.ew_var (i := 1) rfl (.inl rfl) rfl ?_; refine Lw.ew_bl ?_; apply Exists.intro; apply Exists.intro; apply Exists.intro; refine And.intro ?_ ?_; rfl; refine And.intro ?_ ?_; rfl; refine And.intro ?_ ?_; exact Lw.o2_r Lw.o2_isB; refine And.intro ?_ ?_; intro c2; simp only [D.isBl] at c2; refine Lw.ww_or1 ?_; refine Lw.tw_cmp (Lw.opr_or L2.op_isN Lw.op_isBx) ?_; refine Lw.ew_var (i := 1) rfl (.inl rfl) rfl ?_; refine Lw.ew_bl ?_; apply Exists.intro; apply Exists.intro; apply Exists.intro; refine And.intro ?_ ?_; rfl; refine And.intro ?_ ?_; rfl; refine And.intro ?_ ?_; exact Lw.o2_r Lw.o2_isB; refine And.intro ?_ ?_; intro c3; simp only [D.isBl, Bool.false_eq_true] at c3; intro c3; simp only [D.isBl] at c3; refine Lw.ss_nil ?_; refine Lw.ss_cons ?_; refine Lw.sw_if ?_; refine Lw.tw_val ?_; refine Lw.ew_callB L2.call_isi rfl (hb.get (by decide)) Lw.bb_isinstance ?_; refine Lw.aw_cons ?_; refine Lw.ew_var (i := 1) rfl (.inl rfl) rfl ?_; refine Lw.aw_cons ?_; refine Lw.ew_ty (n := "int") (hb.get (by decide)) Lw.bb_int ?_; refine Lw.aw_nil ?_; apply Exists.intro; apply Exists.intro; refine And.intro ?_ ?_; apply Lw.views_cons rfl; apply Lw.views_cons rfl; exact Lw.views_nil; refine And.intro ?_ ?_; exact Lw.on_isi (b := false) rfl rfl rfl; apply Exists.intro; apply Exists.intro; refine And.intro ?_ ?_; rfl; refine And.intro ?_ ?_; rfl; refine And.intro ?_ ?_; intro c4; simp only [Bool.false_eq_true] at c4; intro c4; simp only at c4; refine Lw.ss_nil ?_; refine Lw.ss_cons ?_; refine Lw.sw_if ?_; refine Lw.tw_val ?_; refine Lw.ew_callB L2.call_isi rfl (hb.get (by decide)) Lw.bb_isinstance ?_; refine Lw.aw_cons ?_; refine Lw.ew_var (i := 1) rfl (.inl rfl) rfl ?_; refine Lw.aw_cons ?_; refine Lw.ew_ty (n := "str") (hb.get (by decide)) Lw.bb_str ?_; refine Lw.aw_nil ?_; apply Exists.intro; apply Exists.intro; refine And.intro ?_ ?_; apply Lw.views_cons rfl; apply Lw.views_cons rfl; exact Lw.views_nil; refine And.intro ?_ ?_; exact Lw.on_isi (b := true) rfl rfl rfl; apply Exists.intro; apply Exists.intro; refine And.intro ?_ ?_; rfl; refine And.intro ?_ ?_; rfl; refine And.intro ?_ ?_; intro c5; simp only at c5; refine Lw.ss_cons ?_; refine Lw.sw_ret ?_; refine Lw.ew_and ?_; refine Lw.ew_callB L2.call_isi rfl (hb.get (by decide)) Lw.bb_isinstance ?_; refine Lw.aw_cons ?_; refine Lw.ew_var (i := 0) rfl (.inl rfl) rfl ?_; refine Lw.aw_cons ?_; refine Lw.ew_ty (n := "str") (hb.get (by decide)) Lw.bb_str ?_; refine Lw.aw_nil ?_; apply Exists.intro; apply Exists.intro; refine And.intro ?_ ?_; apply Lw.views_cons rfl; apply Lw.views_cons rfl; exact Lw.views_nil; refine And.intro ?_ ?_; exact Lw.on_isi (b := false) rfl rfl rfl; apply Exists.intro; refine And.intro ?_ ?_; rfl; refine And.intro ?_ ?_; intro c6; simp only [Bool.false_eq_true] at c6; intro c6; simp only at c6; refine Exists.intro () ?_; refine And.intro ?_ ?_; refine And.intro ?_ ?_; rfl; exact True.intro; exact True.intro; intro c5; simp only [Bool.true_eq_false] at c5; intro c2; simp only [D.isBl, Bool.false_eq_true] at c2)); (focus (refine Lw.ss_norm (Γ' := [_, _, _]) rfl ?_; refine Lw.ss_cons ?_; refine Lw.sw_if ?_; refine Lw.tw_cmp (Lw.opr_or L2.op_isN Lw.op_isBx) ?_; refine Lw.ew_var (i := 1) rfl (.inl rfl) rfl ?_; refine Lw.ew_non ?_; apply Exists.intro; apply Exists.intro; apply Exists.intro; refine And.intro ?_ ?_; rfl; refine And.intro ?_ ?_; rfl; refine And.intro ?_ ?_; exact Lw.o2_l Lw.o2_isN; refine And.intro ?_ ?_; intro c1; simp only [D.isNon, Bool.false_eq_true] at c1; intro c1; simp only [D.isNon] at c1; refine Lw.ss_nil ?_; refine Lw.ss_cons ?_; refine Lw.sw_if ?_; refine Lw.tw_pw ?_; refine Lw.ww_or ?_; refine Lw.tw_cmp (Lw.opr_or L2.op_isN Lw.op_isBx) ?_; refine Lw.ew_var (i := 1) rfl (.inl rfl) rfl ?_; refine Lw.ew_bl ?_; apply Exists.intro; apply Exists.intro; apply Exists.intro; refine And.intro ?_ ?_; rfl; refine And.intro ?_ ?_; rfl; refine And.intro ?_ ?_; exact Lw.o2_r Lw.o2_isB; refine And.intro ?_ ?_; intro c2; simp only [D.isBl] at c2; refine Lw.ww_or1 ?_; refine Lw.tw_cmp (Lw.opr_or L2.op_isN Lw.op_isBx) ?_; refine Lw.ew_var (i := 1) rfl (.inl rfl) rfl ?_; refine Lw.ew_bl ?_; apply Exists.intro; apply Exists.intro; apply Exists.intro; refine And.intro ?_ ?_; rfl; refine And.intro ?_ ?_; rfl; refine And.intro ?_ ?_; exact Lw.o2_r Lw.o2_isB; refine And.intro ?_ ?_; intro c3; simp only [D.isBl, Bool.false_eq_true] at c3; intro c3; simp only [D.isBl] at c3; refine Lw.ss_nil ?_; refine Lw.ss_cons ?_; refine Lw.sw_if ?_; refine Lw.tw_val ?_; refine Lw.ew_callB L2.call_isi rfl (hb.get (by decide)) Lw.bb_isinstance ?_; refine Lw.aw_cons ?_; refine Lw.ew_var (i := 1) rfl (.inl rfl) rfl ?_; refine Lw.aw_cons ?_; refine Lw.ew_ty (n := "int") (hb.get (by decide)) Lw.bb_int ?_; refine Lw.aw_nil ?_; apply Exists.intro; apply Exists.intro; refine And.intro ?_ ?_; apply Lw.views_cons rfl; apply Lw.views_cons rfl; exact Lw.views_nil; refine And.intro ?_ ?_; exact Lw.on_isi (b := false) rfl rfl rfl; apply Exists.intro; apply Exists.intro; refine And.intro ?_ ?_; rfl; refine And.intro ?_ ?_; rfl; refine And.intro ?_ ?_; intro c4; simp only [Bool.false_eq_true] at c4; intro c4; simp only at c4; refine Lw.ss_nil ?_; refine Lw.ss_cons ?_; refine Lw.sw_if ?_; refine Lw.tw_val ?_; refine Lw.ew_callB L2.call_isi rfl (hb.get (by decide)) Lw.bb_isinstance ?_; refine Lw.aw_cons ?_; refine Lw.ew_var (i := 1) rfl (.inl rfl) rfl ?_; refine Lw.aw_cons ?_; refine Lw.ew_ty (n := "str") (hb.get (by decide)) Lw.bb_str ?_; refine Lw.aw_nil ?_; apply Exists.intro; apply Exists.intro; refine And.intro ?_ ?_; apply Lw.views_cons rfl; apply Lw.views_cons rfl; exact Lw.views_nil; refine And.intro ?_ ?_; exact Lw.on_isi (b := true) rfl rfl rfl; apply Exists.intro; apply Exists.intro; refine And.intro ?_ ?_; rfl; refine And.intro ?_ ?_; rfl; refine And.intro ?_ ?_; intro c5; simp only at c5; refine Lw.ss_cons ?_; refine Lw.sw_ret ?_; refine Lw.ew_and ?_; refine Lw.ew_callB L2.call_isi rfl (hb.get (by decide)) Lw.bb_isinstance ?_; refine Lw.aw_cons ?_; refine Lw.ew_var (i := 0) rfl (.inl rfl) rfl ?_; refine Lw.aw_cons ?_; refine Lw.ew_ty (n := "str") (hb.get (by decide)) Lw.bb_str ?_; refine Lw.aw_nil ?_; apply Exists.intro; apply Exists.intro; refine And.intro ?_ ?_; apply Lw.views_cons rfl; apply Lw.views_cons rfl; exact Lw.views_nil; refine And.intro ?_ ?_; exact Lw.on_isi (b := false) rfl rfl rfl; apply Exists.intro; refine And.intro ?_ ?_; rfl; refine And.intro ?_ ?_; intro c6; simp only [Bool.false_eq_true] at c6; intro c6; simp only at c6; refine Exists.intro () ?_; refine And.intro ?_ ?_; refine And.intro ?_ ?_; rfl; exact True.intro; exact True.intro; intro c5; simp only [Bool.true_eq_false] at c5; intro c2; simp only [D.isBl, Bool.false_eq_true] at c2)); (focus (refine Lw.ss_norm (Γ' := [_, _, _]) rfl ?_; refine Lw.ss_cons ?_; refine Lw.sw_if ?_; refine Lw.tw_cmp (Lw.opr_or L2.op_isN Lw.op_isBx) ?_; refine Lw.ew_var (i := 1) rfl (.inl rfl) rfl ?_; refine Lw.ew_non ?_; apply Exists.intro; apply Exists.intro; apply Exists.intro; refine And.intro ?_ ?_; rfl; refine And.intro ?_ ?_; rfl; refine And.intro ?_ ?_; exact Lw.o2_l Lw.o2_isN; refine And.intro ?_ ?_; intro c1; simp only [D.isNon, Bool.false_eq_true] at c1; intro c1; simp only [D.isNon] at c1; refine Lw.ss_nil ?_; refine Lw.ss_cons ?_; refine Lw.sw_if ?_; refine Lw.tw_pw ?_; refine Lw.ww_or ?_; refine Lw.tw_cmp (Lw.opr_or L2.op_isN Lw.op_isBx) ?_; refine Lw.ew_var (i := 1) rfl (.inl rfl) rfl ?_; refine Lw.ew_bl ?_; apply Exists.intro; apply Exists.intro; apply Exists.intro; refine And.intro ?_ ?_; rfl; refine And.intro ?_ ?_; rfl; refine And.intro ?_ ?_; exact Lw.o2_r Lw.o2_isB; refine And.intro ?_ ?_; intro c2; simp only [D.isBl] at c2; refine Lw.ww_or1 ?_; refine Lw.tw_cmp (Lw.opr_or L2.op_isN Lw.op_isBx) ?_; refine Lw.ew_var (i := 1) rfl (.inl rfl) rfl ?_; refine Lw.ew_bl ?_; apply Exists.intro; apply Exists.intro; apply Exists.intro; refine And.intro ?_ ?_; rfl; refine And.intro ?_ ?_; rfl; refine And.intro ?_ ?_; exact Lw.o2_r Lw.o2_isB; refine And.intro ?_ ?_; intro c3; simp only [D.isBl, Bool.false_eq_true] at c3; intro c3; simp only [D.isBl] at c3; refine Lw.ss_nil ?_; refine Lw.ss_cons ?_; refine Lw.sw_if ?_; refine Lw.tw_val ?_; refine Lw.ew_callB L2.call_isi rfl (hb.get (by decide)) Lw.bb_isinstance ?_; refine Lw.aw_cons ?_; refine Lw.ew_var (i := 1) rfl (.inl rfl) rfl ?_; refine Lw.aw_cons ?_; refine Lw.ew_ty (n := "int") (hb.get (by decide)) Lw.bb_int ?_; refine Lw.aw_nil ?_; apply Exists.intro; apply Exists.intro; refine And.intro ?_ ?_; apply Lw.views_cons rfl; apply Lw.views_cons rfl; exact Lw.views_nil; refine And.intro ?_ ?_; exact Lw.on_isi (b := false) rfl rfl rfl; apply Exists.intro; apply Exists.intro; refine And.intro ?_ ?_; rfl; refine And.intro ?_ ?_; rfl; refine And.intro ?_ ?_; intro c4; simp only [Bool.false_eq_true] at c4; intro c4; simp only at c4; refine Lw.ss_nil ?_; refine Lw.ss_cons ?_; refine Lw.sw_if ?_; refine Lw.tw_val ?_; refine Lw.ew_callB L2.call_isi rfl (hb.get (by decide)) Lw.bb_isinstance ?_; refine Lw.aw_cons ?_; refine Lw.ew_var (i := 1) rfl (.inl rfl) rfl ?_; refine Lw.aw_cons ?_; refine Lw.ew_ty (n := "str") (hb.get (by decide)) Lw.bb_str ?_; refine Lw.aw_nil ?_; apply Exists.intro; apply Exists.intro; refine And.intro ?_ ?_; apply Lw.views_cons rfl; apply Lw.views_cons rfl; exact Lw.views_nil; refine And.intro ?_ ?_; exact Lw.on_isi (b := true) rfl rfl rfl; apply Exists.intro; apply Exists.intro; refine And.intro ?_ ?_; rfl; refine And.intro ?_ ?_; rfl; refine And.intro ?_ ?_; intro c5; simp only at c5; refine Lw.ss_cons ?_; refine Lw.sw_ret ?_; refine Lw.ew_and ?_; refine Lw.ew_callB L2.call_isi rfl (hb.get (by decide)) Lw.bb_isinstance ?_; refine Lw.aw_cons ?_; refine Lw.ew_var (i := 0) rfl (.inl rfl) rfl ?_; refine Lw.aw_cons ?_; refine Lw.ew_ty (n := "str") (hb.get (by decide)) Lw.bb_str ?_; refine Lw.aw_nil ?_; apply Exists.intro; apply Exists.intro; refine And.intro ?_ ?_; apply Lw.views_cons rfl; apply Lw.views_cons rfl; exact Lw.views_nil; refine And.intro ?_ ?_; exact Lw.on_isi (b := false) rfl rfl rfl; apply Exists.intro; refine And.intro ?_ ?_; rfl; refine And.intro ?_ ?_; intro c6; simp only [Bool.false_eq_true] at c6; intro c6; simp only at c6; refine Exists.intro () ?_; refine And.intro ?_ ?_; refine And.intro ?_ ?_; rfl; exact True.intro; exact True.intro; intro c5; simp only [Bool.true_eq_false] at c5; intro c2; simp only [D.isBl, Bool.false_eq_true] at c2)); (focus (refine Lw.ss_norm (Γ' := [_, _, _]) rfl ?_; refine Lw.ss_cons ?_; refine Lw.sw_if ?_; refine Lw.tw_cmp (Lw.opr_or L2.op_isN Lw.op_isBx) ?_; refine Lw.ew_var (i := 1) rfl (.inl rfl) rfl ?_; refine Lw.ew_non ?_; apply Exists.intro; apply Exists.intro; apply Exists.intro; refine And.intro ?_ ?_; rfl; refine And.intro ?_ ?_; rfl; refine And.intro ?_ ?_; exact Lw.o2_l Lw.o2_isN; refine And.intro ?_ ?_; intro c1; simp only [D.isNon, Bool.false_eq_true] at c1; intro c1; simp only [D.isNon] at c1; refine Lw.ss_nil ?_; refine Lw.ss_cons ?_; refine Lw.sw_if ?_; refine Lw.tw_pw ?_; refine Lw.ww_or ?_; refine Lw.tw_cmp (Lw.opr_or L2.op_isN Lw.op_isBx) ?_; refine Lw.ew_var (i := 1) rfl (.inl rfl) rfl ?_; refine Lw.ew_bl ?_; apply Exists.intro; apply Exists.intro; apply Exists.intro; refine And.intro ?_ ?_; rfl; refine And.intro ?_ ?_; rfl; refine And.intro ?_ ?_; exact Lw.o2_r Lw.o2_isB; refine And.intro ?_ ?_; intro c2; simp only [D.isBl] at c2; refine Lw.ww_or1 ?_; refine Lw.tw_cmp (Lw.opr_or L2.op_isN Lw.op_isBx) ?_; refine Lw.ew_var (i := 1) rfl (.inl rfl) rfl ?_; refine Lw.ew_bl ?_; apply Exists.intro; apply Exists.intro; apply Exists.intro; refine And.intro ?_ ?_; rfl; refine And.intro ?_ ?_; rfl; refine And.intro ?_ ?_; exact Lw.o2_r Lw.o2_isB; refine And.intro ?_ ?_; intro c3; simp only [D.isBl, Bool.false_eq_true] at c3; intro c3; simp only [D.isBl] at c3; refine Lw.ss_nil ?_; refine Lw.ss_cons ?_; refine Lw.sw_if ?_; refine Lw.tw_val ?_; refine Lw.ew_callB L2.call_isi rfl (hb.get (by decide)) Lw.bb_isinstance ?_; refine Lw.aw_cons ?_; refine Lw.ew_var (i := 1) rfl (.inl rfl) rfl ?_; refine Lw.aw_cons ?_; refine Lw.ew_ty (n := "int") (hb.get (by decide)) Lw.bb_int ?_; refine Lw.aw_nil ?_; apply Exists.intro; apply Exists.intro; refine And.intro ?_ ?_; apply Lw.views_cons rfl; apply Lw.views_cons rfl; exact Lw.views_nil; refine And.intro ?_ ?_; exact Lw.on_isi (b := false) rfl rfl rfl; apply Exists.intro; apply Exists.intro; refine And.intro ?_ ?_; rfl; refine And.intro ?_ ?_; rfl; refine And.intro ?_ ?_; intro c4; simp only [Bool.false_eq_true] at c4; intro c4; simp only at c4; refine Lw.ss_nil ?_; refine Lw.ss_cons ?_; refine Lw.sw_if ?_; refine Lw.tw_val ?_; refine Lw.ew_callB L2.call_isi rfl (hb.get (by decide)) Lw.bb_isinstance ?_; refine Lw.aw_cons ?_; refine Lw.ew_var (i := 1) rfl (.inl rfl) rfl ?_; refine Lw.aw_cons ?_; refine Lw.ew_ty (n := "str") (hb.get (by decide)) Lw.bb_str ?_; refine Lw.aw_nil ?_; apply Exists.intro; apply Exists.intro; refine And.intro ?_ ?_; apply Lw.views_cons rfl; apply Lw.views_cons rfl; exact Lw.views_nil; refine And.intro ?_ ?_; exact Lw.on_isi (b := true) rfl rfl rfl; apply Exists.intro; apply Exists.intro; refine And.intro ?_ ?_; rfl; refine And.intro ?_ ?_; rfl; refine And.intro ?_ ?_; intro c5; simp only at c5; refine Lw.ss_cons ?_; refine Lw.sw_ret ?_; refine Lw.ew_and ?_; refine Lw.ew_callB L2.call_isi rfl (hb.get (by decide)) Lw.bb_isinstance ?_; refine Lw.aw_cons ?_; refine Lw.ew_var (i := 0) rfl (.inl rfl) rfl ?_; refine Lw.aw_cons ?_; refine Lw.ew_ty (n := "str") (hb.get (by decide)) Lw.bb_str ?_; refine Lw.aw_nil ?_; apply Exists.intro; apply Exists.intro; refine And.intro ?_ ?_; apply Lw.views_cons rfl; apply Lw.views_cons rfl; exact Lw.views_nil; refine And.intro ?_ ?_; exact Lw.on_isi (b := true) rfl rfl rfl; apply Exists.intro; refine And.intro ?_ ?_; rfl; refine And.intro ?_ ?_; intro c6; simp only at c6; refine Lw.ew_one ?_; refine Lw.ew_cmp (Lw.opr_or L2.op_eq (L2.op_eqD hr.units)) ?_; refine Lw.ew_var (i := 0) rfl (.inl rfl) rfl ?_; refine Lw.ew_var (i := 1) rfl (.inl rfl) rfl ?_; apply Exists.intro; apply Exists.intro; apply Exists.intro; refine And.intro ?_ ?_; rfl; refine And.intro ?_ ?_; rfl; refine And.intro ?_ ?_; exact Lw.o2_l Lw.o2_eqS; refine Exists.intro () ?_; refine And.intro ?_ ?_; refine And.intro ?_ ?_; rfl; exact True.intro; exact True.intro; intro c6; simp only [Bool.true_eq_false] at c6; intro c5; simp only [Bool.true_eq_false] at c5; intro c2; simp only [D.isBl, Bool.false_eq_true] at c2)))
    all_goals first | (simp [sameD]; done) | trace_state
  | _ => simp [okN] at hd
theorem ok_same1 {n : Nat} (hb : Blt mg blts) (F : Fun K "_law_same" "_law_same" s_law_same f fd) (d1 : Def P w K mg base "_law_is_int" 1 cIsInt) (d2 : Def P w K mg base "_law_same" (n + 2) (cSame n)) : FnOk P w K mg base (L2.CX P w) (n + 3) f fd ["got", "due"] (spC K (cSame (n + 1))) := by
  (refine Lw.fn_okC F sc_law_same (fun _ => rfl) fun ⟨g, d⟩ cdv A outer s H E Z ⟨hk, hd⟩ hr tk po => ?_; have hN := (sc_law_same).nd)
  replace hk : okN (n + 1) g = true := hk
  replace hd : okN (n + 1) d = true := hd
  have hg := okN_ok hk
  cases d with
  | bl b =>
    cases b <;> (cases g <;> first | (simp [okN] at hk; done) | skip)
    ((focus (refine Lw.ss_norm (Γ' := [_, _, _]) rfl ?_; refine Lw.ss_cons ?_; refine Lw.sw_if ?_; refine Lw.tw_cmp (Lw.opr_or L2.op_isN Lw.op_isBx) ?_; refine Lw.ew_var (i := 1) rfl (.inl rfl) rfl ?_; refine Lw.ew_non ?_; apply Exists.intro; apply Exists.intro; apply Exists.intro; refine And.intro ?_ ?_; rfl; refine And.intro ?_ ?_; rfl; refine And.intro ?_ ?_; exact Lw.o2_l Lw.o2_isN; refine And.intro ?_ ?_; intro c1; simp only [D.isNon, Bool.false_eq_true] at c1; intro c1; simp only [D.isNon] at c1; refine Lw.ss_nil ?_; refine Lw.ss_cons ?_; refine Lw.sw_if ?_; refine Lw.tw_pw ?_; refine Lw.ww_or ?_; refine Lw.tw_cmp (Lw.opr_or L2.op_isN Lw.op_isBx) ?_; refine Lw.ew_var (i := 1) rfl (.inl rfl) rfl ?_; refine Lw.ew_bl ?_; apply Exists.intro; apply Exists.intro; apply Exists.intro; refine And.intro ?_ ?_; rfl; refine And.intro ?_ ?_; rfl; refine And.intro ?_ ?_; exact Lw.o2_r Lw.o2_isB; refine And.intro ?_ ?_; intro c2; simp only [D.isBl] at c2; refine Lw.ww_or1 ?_; refine Lw.tw_cmp (Lw.opr_or L2.op_isN Lw.op_isBx) ?_; refine Lw.ew_var (i := 1) rfl (.inl rfl) rfl ?_; refine Lw.ew_bl ?_; apply Exists.intro; apply Exists.intro; apply Exists.intro; refine And.intro ?_ ?_; rfl; refine And.intro ?_ ?_; rfl; refine And.intro ?_ ?_; exact Lw.o2_r Lw.o2_isB; refine And.intro ?_ ?_; intro c3; simp only [D.isBl, beq_self_eq_true] at c3; refine Lw.ss_cons ?_; refine Lw.sw_ret ?_; refine Lw.ew_and ?_; refine Lw.ew_callB L2.call_isi rfl (hb.get (by decide)) Lw.bb_isinstance ?_; refine Lw.aw_cons ?_; refine Lw.ew_var (i := 0) rfl (.inl rfl) rfl ?_; refine Lw.aw_cons ?_; refine Lw.ew_ty (n := "bool") (hb.get (by decide)) Lw.bb_bool ?_; refine Lw.aw_nil ?_; apply Exists.intro; apply Exists.intro; refine And.intro ?_ ?_; apply Lw.views_cons rfl; apply Lw.views_cons rfl; exact Lw.views_nil; refine And.intro ?_ ?_; exact Lw.on_isi (b := false) rfl rfl rfl; apply Exists.intro; refine And.intro ?_ ?_; rfl; refine And.intro ?_ ?_; intro c4; simp only [Bool.false_eq_true] at c4; intro c4; simp only at c4; refine Exists.intro () ?_; refine And.intro ?_ ?_; refine And.intro ?_ ?_; rfl; exact True.intro; exact True.intro; intro c3; simp only [D.isBl, beq_self_eq_true, Bool.true_eq_false] at c3; intro c2; simp only [D.isBl, beq_iff_eq, Bool.false_eq_true] at c2)); (focus (refine Lw.ss_norm (Γ' := [_, _, _]) rfl ?_; refine Lw.ss_cons ?_; refine Lw.sw_if ?_; refine Lw.tw_cmp (Lw.opr_or L2.op_isN Lw.op_isBx) ?_; refine Lw.ew_var (i := 1) rfl (.inl rfl) rfl ?_; refine Lw.ew_non ?_; apply Exists.intro; apply Exists.intro; apply Exists.intro; refine And.intro ?_ ?_; rfl; refine And.intro ?_ ?_; rfl; refine And.intro ?_ ?_; exact Lw.o2_l Lw.o2_isN; refine And.intro ?_ ?_; intro c1; simp only [D.isNon, Bool.false_eq_true] at c1; intro c1; simp only [D.isNon] at c1; refine Lw.ss_nil ?_; refine Lw.ss_cons ?_; refine Lw.sw_if ?_; refine Lw.tw_pw ?_; refine Lw.ww_or ?_; refine Lw.tw_cmp (Lw.opr_or L2.op_isN Lw.op_isBx) ?_; refine Lw.ew_var (i := 1) rfl (.inl rfl) rfl ?_; refine Lw.ew_bl ?_; apply Exists.intro; apply Exists.intro; apply Exists.intro; refine And.intro ?_ ?_; rfl; refine And.intro ?_ ?_; rfl; refine And.intro ?_ ?_; exact Lw.o2_r Lw.o2_isB; refine And.intro ?_ ?_; intro c2; simp only [D.isBl] at c2; refine Lw.ww_or1 ?_; refine Lw.tw_cmp (Lw.opr_or L2.op_isN Lw.op_isBx) ?_; refine Lw.ew_var (i := 1) rfl (.inl rfl) rfl ?_; refine Lw.ew_bl ?_; apply Exists.intro; apply Exists.intro; apply Exists.intro; refine And.intro ?_ ?_; rfl; refine And.intro ?_ ?_; rfl; refine And.intro ?_ ?_; exact Lw.o2_r Lw.o2_isB; refine And.intro ?_ ?_; intro c3; simp only [D.isBl, beq_self_eq_true] at c3; refine Lw.ss_cons ?_; refine Lw.sw_ret ?_; refine Lw.ew_and ?_; refine Lw.ew_callB L2.call_isi rfl (hb.get (by decide)) Lw.bb_isinstance ?_; refine Lw.aw_cons ?_; refine Lw.ew_var (i := 0) rfl (.inl rfl) rfl ?_; refine Lw.aw_cons ?_; refine Lw.ew_ty (n := "bool") (hb.get (by decide)) Lw.bb_bool ?_; refine Lw.aw_nil ?_; apply Exists.intro; apply Exists.intro; refine And.intro ?_ ?_; apply Lw.views_cons rfl; apply Lw.views_cons rfl; exact Lw.views_nil; refine And.intro ?_ ?_; exact Lw.on_isi (b := true) rfl rfl rfl; apply Exists.intro; refine And.intro ?_ ?_; rfl; refine And.intro ?_ ?_; intro c4; simp only at c4; refine Lw.ew_one ?_; refine Lw.ew_cmp (Lw.opr_or L2.op_eq (L2.op_eqD hr.units)) ?_; refine Lw.ew_var (i := 0) rfl (.inl rfl) rfl ?_; refine Lw.ew_var (i := 1) rfl (.inl rfl) rfl ?_; apply Exists.intro; apply Exists.intro; apply Exists.intro; refine And.intro ?_ ?_; rfl; refine And.intro ?_ ?_; rfl; refine And.intro ?_ ?_; exact Lw.o2_l Lw.o2_eqB; refine Exists.intro () ?_; refine And.intro ?_ ?_; refine And.intro ?_ ?_; rfl; exact True.intro; exact True.intro; intro c4; simp only [Bool.true_eq_false] at c4; intro c3; simp only [D.isBl, beq_self_eq_true, Bool.true_eq_false] at c3; intro c2; simp only [D.isBl, beq_iff_eq, Bool.false_eq_true] at c2)); (focus (refine Lw.ss_norm (Γ' := [_, _, _]) rfl ?_; refine Lw.ss_cons ?_; refine Lw.sw_if ?_; refine Lw.tw_cmp (Lw.opr_or L2.op_isN Lw.op_isBx) ?_; refine Lw.ew_var (i := 1) rfl (.inl rfl) rfl ?_; refine Lw.ew_non ?_; apply Exists.intro; apply Exists.intro; apply Exists.intro; refine And.intro ?_ ?_; rfl; refine And.intro ?_ ?_; rfl; refine And.intro ?_ ?_; exact Lw.o2_l Lw.o2_isN; refine And.intro ?_ ?_; intro c1; simp only [D.isNon, Bool.false_eq_true] at c1; intro c1; simp only [D.isNon] at c1; refine Lw.ss_nil ?_; refine Lw.ss_cons ?_; refine Lw.sw_if ?_; refine Lw.tw_pw ?_; refine Lw.ww_or ?_; refine Lw.tw_cmp (Lw.opr_or L2.op_isN Lw.op_isBx) ?_; refine Lw.ew_var (i := 1) rfl (.inl rfl) rfl ?_; refine Lw.ew_bl ?_; apply Exists.intro; apply Exists.intro; apply Exists.intro; refine And.intro ?_ ?_; rfl; refine And.intro ?_ ?_; rfl; refine And.intro ?_ ?_; exact Lw.o2_r Lw.o2_isB; refine And.intro ?_ ?_; intro c2; simp only [D.isBl] at c2; refine Lw.ww_or1 ?_; refine Lw.tw_cmp (Lw.opr_or L2.op_isN Lw.op_isBx) ?_; refine Lw.ew_var (i := 1) rfl (.inl rfl) rfl ?_; refine Lw.ew_bl ?_; apply Exists.intro; apply Exists.intro; apply Exists.intro; refine And.intro ?_ ?_; rfl; refine And.intro ?_ ?_; rfl; refine And.intro ?_ ?_; exact Lw.o2_r Lw.o2_isB; refine And.intro ?_ ?_; intro c3; simp only [D.isBl, beq_self_eq_true] at c3; refine Lw.ss_cons ?_; refine Lw.sw_ret ?_; refine Lw.ew_and ?_; refine Lw.ew_callB L2.call_isi rfl (hb.get (by decide)) Lw.bb_isinstance ?_; refine Lw.aw_cons ?_; refine Lw.ew_var (i := 0) rfl (.inl rfl) rfl ?_; refine Lw.aw_cons ?_; refine Lw.ew_ty (n := "bool") (hb.get (by decide)) Lw.bb_bool ?_; refine Lw.aw_nil ?_; apply Exists.intro; apply Exists.intro; refine And.intro ?_ ?_; apply Lw.views_cons rfl; apply Lw.views_cons rfl; exact Lw.views_nil; refine And.intro ?_ ?_; exact Lw.on_isi (b := false) rfl rfl rfl; apply Exists.intro; refine And.intro ?_ ?_; rfl; refine And.intro ?_ ?_; intro c4; simp only [Bool.false_eq_true] at c4; intro c4; simp only at c4; refine Exists.intro () ?_; refine And.intro ?_ ?_; refine And.intro ?_ ?_; rfl; exact True.intro; exact True.intro; intro c3; simp only [D.isBl, beq_self_eq_true, Bool.true_eq_false] at c3; intro c2; simp only [D.isBl, beq_iff_eq, Bool.false_eq_true] at c2)); (focus (refine Lw.ss_norm (Γ' := [_, _, _]) rfl ?_; refine Lw.ss_cons ?_; refine Lw.sw_if ?_; refine Lw.tw_cmp (Lw.opr_or L2.op_isN Lw.op_isBx) ?_; refine Lw.ew_var (i := 1) rfl (.inl rfl) rfl ?_; refine Lw.ew_non ?_; apply Exists.intro; apply Exists.intro; apply Exists.intro; refine And.intro ?_ ?_; rfl; refine And.intro ?_ ?_; rfl; refine And.intro ?_ ?_; exact Lw.o2_l Lw.o2_isN; refine And.intro ?_ ?_; intro c1; simp only [D.isNon, Bool.false_eq_true] at c1; intro c1; simp only [D.isNon] at c1; refine Lw.ss_nil ?_; refine Lw.ss_cons ?_; refine Lw.sw_if ?_; refine Lw.tw_pw ?_; refine Lw.ww_or ?_; refine Lw.tw_cmp (Lw.opr_or L2.op_isN Lw.op_isBx) ?_; refine Lw.ew_var (i := 1) rfl (.inl rfl) rfl ?_; refine Lw.ew_bl ?_; apply Exists.intro; apply Exists.intro; apply Exists.intro; refine And.intro ?_ ?_; rfl; refine And.intro ?_ ?_; rfl; refine And.intro ?_ ?_; exact Lw.o2_r Lw.o2_isB; refine And.intro ?_ ?_; intro c2; simp only [D.isBl] at c2; refine Lw.ww_or1 ?_; refine Lw.tw_cmp (Lw.opr_or L2.op_isN Lw.op_isBx) ?_; refine Lw.ew_var (i := 1) rfl (.inl rfl) rfl ?_; refine Lw.ew_bl ?_; apply Exists.intro; apply Exists.intro; apply Exists.intro; refine And.intro ?_ ?_; rfl; refine And.intro ?_ ?_; rfl; refine And.intro ?_ ?_; exact Lw.o2_r Lw.o2_isB; refine And.intro ?_ ?_; intro c3; simp only [D.isBl, beq_self_eq_true] at c3; refine Lw.ss_cons ?_; refine Lw.sw_ret ?_; refine Lw.ew_and ?_; refine Lw.ew_callB L2.call_isi rfl (hb.get (by decide)) Lw.bb_isinstance ?_; refine Lw.aw_cons ?_; refine Lw.ew_var (i := 0) rfl (.inl rfl) rfl ?_; refine Lw.aw_cons ?_; refine Lw.ew_ty (n := "bool") (hb.get (by decide)) Lw.bb_bool ?_; refine Lw.aw_nil ?_; apply Exists.intro; apply Exists.intro; refine And.intro ?_ ?_; apply Lw.views_cons rfl; apply Lw.views_cons rfl; exact Lw.views_nil; refine And.intro ?_ ?_; exact Lw.on_isi (b := false) rfl rfl rfl; apply Exists.intro; refine And.intro ?_ ?_; rfl; refine And.intro ?_ ?_; intro c4; simp only [Bool.false_eq_true] at c4; intro c4; simp only at c4; refine Exists.intro () ?_; refine And.intro ?_ ?_; refine And.intro ?_ ?_; rfl; exact True.intro; exact True.intro; intro c3; simp only [D.isBl, beq_self_eq_true, Bool.true_eq_false] at c3; intro c2; simp only [D.isBl, beq_iff_eq, Bool.false_eq_true] at c2)); (focus (refine Lw.ss_norm (Γ' := [_, _, _]) rfl ?_; refine Lw.ss_cons ?_; refine Lw.sw_if ?_; refine Lw.tw_cmp (Lw.opr_or L2.op_isN Lw.op_isBx) ?_; refine Lw.ew_var (i := 1) rfl (.inl rfl) rfl ?_; refine Lw.ew_non ?_; apply Exists.intro; apply Exists.intro; apply Exists.intro; refine And.intro ?_ ?_; rfl; refine And.intro ?_ ?_; rfl; refine And.intro ?_ ?_; exact Lw.o2_l Lw.o2_isN; refine And.intro ?_ ?_; intro c1; simp only [D.isNon, Bool.false_eq_true] at c1; intro c1; simp only [D.isNon] at c1; refine Lw.ss_nil ?_; refine Lw.ss_cons ?_; refine Lw.sw_if ?_; refine Lw.tw_pw ?_; refine Lw.ww_or ?_; refine Lw.tw_cmp (Lw.opr_or L2.op_isN Lw.op_isBx) ?_; refine Lw.ew_var (i := 1) rfl (.inl rfl) rfl ?_; refine Lw.ew_bl ?_; apply Exists.intro; apply Exists.intro; apply Exists.intro; refine And.intro ?_ ?_; rfl; refine And.intro ?_ ?_; rfl; refine And.intro ?_ ?_; exact Lw.o2_r Lw.o2_isB; refine And.intro ?_ ?_; intro c2; simp only [D.isBl] at c2; refine Lw.ww_or1 ?_; refine Lw.tw_cmp (Lw.opr_or L2.op_isN Lw.op_isBx) ?_; refine Lw.ew_var (i := 1) rfl (.inl rfl) rfl ?_; refine Lw.ew_bl ?_; apply Exists.intro; apply Exists.intro; apply Exists.intro; refine And.intro ?_ ?_; rfl; refine And.intro ?_ ?_; rfl; refine And.intro ?_ ?_; exact Lw.o2_r Lw.o2_isB; refine And.intro ?_ ?_; intro c3; simp only [D.isBl, beq_self_eq_true] at c3; refine Lw.ss_cons ?_; refine Lw.sw_ret ?_; refine Lw.ew_and ?_; refine Lw.ew_callB L2.call_isi rfl (hb.get (by decide)) Lw.bb_isinstance ?_; refine Lw.aw_cons ?_; refine Lw.ew_var (i := 0) rfl (.inl rfl) rfl ?_; refine Lw.aw_cons ?_; refine Lw.ew_ty (n := "bool") (hb.get (by decide)) Lw.bb_bool ?_; refine Lw.aw_nil ?_; apply Exists.intro; apply Exists.intro; refine And.intro ?_ ?_; apply Lw.views_cons rfl; apply Lw.views_cons rfl; exact Lw.views_nil; refine And.intro ?_ ?_; exact Lw.on_isi (b := false) rfl rfl rfl; apply Exists.intro; refine And.intro ?_ ?_; rfl; refine And.intro ?_ ?_; intro c4; simp only [Bool.false_eq_true] at c4; intro c4; simp only at c4; refine Exists.intro () ?_; refine And.intro ?_ ?_; refine And.intro ?_ ?_; rfl; exact True.intro; exact True.intro; intro c3; simp only [D.isBl, beq_self_eq_true, Bool.true_eq_false] at c3; intro c2; simp only [D.isBl, beq_iff_eq, Bool.false_eq_true] at c2)); (focus (refine Lw.ss_norm (Γ' := [_, _, _]) rfl ?_; refine Lw.ss_cons ?_; refine Lw.sw_if ?_; refine Lw.tw_cmp (Lw.opr_or L2.op_isN Lw.op_isBx) ?_; refine Lw.ew_var (i := 1) rfl (.inl rfl) rfl ?_; refine Lw.ew_non ?_; apply Exists.intro; apply Exists.intro; apply Exists.intro; refine And.intro ?_ ?_; rfl; refine And.intro ?_ ?_; rfl; refine And.intro ?_ ?_; exact Lw.o2_l Lw.o2_isN; refine And.intro ?_ ?_; intro c1; simp only [D.isNon, Bool.false_eq_true] at c1; intro c1; simp only [D.isNon] at c1; refine Lw.ss_nil ?_; refine Lw.ss_cons ?_; refine Lw.sw_if ?_; refine Lw.tw_pw ?_; refine Lw.ww_or ?_; refine Lw.tw_cmp (Lw.opr_or L2.op_isN Lw.op_isBx) ?_; refine Lw.ew_var (i := 1) rfl (.inl rfl) rfl ?_; refine Lw.ew_bl ?_; apply Exists.intro; apply Exists.intro; apply Exists.intro; refine And.intro ?_ ?_; rfl; refine And.intro ?_ ?_; rfl; refine And.intro ?_ ?_; exact Lw.o2_r Lw.o2_isB; refine And.intro ?_ ?_; intro c2; simp only [D.isBl] at c2; refine Lw.ww_or1 ?_; refine Lw.tw_cmp (Lw.opr_or L2.op_isN Lw.op_isBx) ?_; refine Lw.ew_var (i := 1) rfl (.inl rfl) rfl ?_; refine Lw.ew_bl ?_; apply Exists.intro; apply Exists.intro; apply Exists.intro; refine And.intro ?_ ?_; rfl; refine And.intro ?_ ?_; rfl; refine And.intro ?_ ?_; exact Lw.o2_r Lw.o2_isB; refine And.intro ?_ ?_; intro c3; simp only [D.isBl, beq_self_eq_true] at c3; refine Lw.ss_cons ?_; refine Lw.sw_ret ?_; refine Lw.ew_and ?_; refine Lw.ew_callB L2.call_isi rfl (hb.get (by decide)) Lw.bb_isinstance ?_; refine Lw.aw_cons ?_; refine Lw.ew_var (i := 0) rfl (.inl rfl) rfl ?_; refine Lw.aw_cons ?_; refine Lw.ew_ty (n := "bool") (hb.get (by decide)) Lw.bb_bool ?_; refine Lw.aw_nil ?_; apply Exists.intro; apply Exists.intro; refine And.intro ?_ ?_; apply Lw.views_cons rfl; apply Lw.views_cons rfl; exact Lw.views_nil; refine And.intro ?_ ?_; exact Lw.on_isi (b := false) rfl rfl rfl; apply Exists.intro; refine And.intro ?_ ?_; rfl; refine And.intro ?_ ?_; intro c4; simp only [Bool.false_eq_true] at c4; intro c4; simp only at c4; refine Exists.intro () ?_; refine And.intro ?_ ?_; refine And.intro ?_ ?_; rfl; exact True.intro; exact True.intro; intro c3; simp only [D.isBl, beq_self_eq_true, Bool.true_eq_false] at c3; intro c2; simp only [D.isBl, beq_iff_eq, Bool.false_eq_true] at c2)); (focus (refine Lw.ss_norm (Γ' := [_, _, _]) rfl ?_; refine Lw.ss_cons ?_; refine Lw.sw_if ?_; refine Lw.tw_cmp (Lw.opr_or L2.op_isN Lw.op_isBx) ?_; refine Lw.ew_var (i := 1) rfl (.inl rfl) rfl ?_; refine Lw.ew_non ?_; apply Exists.intro; apply Exists.intro; apply Exists.intro; refine And.intro ?_ ?_; rfl; refine And.intro ?_ ?_; rfl; refine And.intro ?_ ?_; exact Lw.o2_l Lw.o2_isN; refine And.intro ?_ ?_; intro c1; simp only [D.isNon, Bool.false_eq_true] at c1; intro c1; simp only [D.isNon] at c1; refine Lw.ss_nil ?_; refine Lw.ss_cons ?_; refine Lw.sw_if ?_; refine Lw.tw_pw ?_; refine Lw.ww_or ?_; refine Lw.tw_cmp (Lw.opr_or L2.op_isN Lw.op_isBx) ?_; refine Lw.ew_var (i := 1) rfl (.inl rfl) rfl ?_; refine Lw.ew_bl ?_; apply Exists.intro; apply Exists.intro; apply Exists.intro; refine And.intro ?_ ?_; rfl; refine And.intro ?_ ?_; rfl; refine And.intro ?_ ?_; exact Lw.o2_r Lw.o2_isB; refine And.intro ?_ ?_; intro c2; simp only [D.isBl, beq_self_eq_true, Bool.true_eq_false] at c2; intro c2; simp only [D.isBl, beq_self_eq_true] at c2; refine And.intro ?_ ?_; intro c3; simp only at c3; refine Lw.ss_cons ?_; refine Lw.sw_ret ?_; refine Lw.ew_and ?_; refine Lw.ew_callB L2.call_isi rfl (hb.get (by decide)) Lw.bb_isinstance ?_; refine Lw.aw_cons ?_; refine Lw.ew_var (i := 0) rfl (.inl rfl) rfl ?_; refine Lw.aw_cons ?_; refine Lw.ew_ty (n := "bool") (hb.get (by decide)) Lw.bb_bool ?_; refine Lw.aw_nil ?_; apply Exists.intro; apply Exists.intro; refine And.intro ?_ ?_; apply Lw.views_cons rfl; apply Lw.views_cons rfl; exact Lw.views_nil; refine And.intro ?_ ?_; exact Lw.on_isi (b := false) rfl rfl rfl; apply Exists.intro; refine And.intro ?_ ?_; rfl; refine And.intro ?_ ?_; intro c4; simp only [Bool.false_eq_true] at c4; intro c4; simp only at c4; refine Exists.intro () ?_; refine And.intro ?_ ?_; refine And.intro ?_ ?_; rfl; exact True.intro; exact True.intro; intro c3; simp only [Bool.true_eq_false] at c3)); (focus (refine Lw.ss_norm (Γ' := [_, _, _]) rfl ?_; refine Lw.ss_cons ?_; refine Lw.sw_if ?_; refine Lw.tw_cmp (Lw.opr_or L2.op_isN Lw.op_isBx) ?_; refine Lw.ew_var (i := 1) rfl (.inl rfl) rfl ?_; refine Lw.ew_non ?_; apply Exists.intro; apply Exists.intro; apply Exists.intro; refine And.intro ?_ ?_; rfl; refine And.intro ?_ ?_; rfl; refine And.intro ?_ ?_; exact Lw.o2_l Lw.o2_isN; refine And.intro ?_ ?_; intro c1; simp only [D.isNon, Bool.false_eq_true] at c1; intro c1; simp only [D.isNon] at c1; refine Lw.ss_nil ?_; refine Lw.ss_cons ?_; refine Lw.sw_if ?_; refine Lw.tw_pw ?_; refine Lw.ww_or ?_; refine Lw.tw_cmp (Lw.opr_or L2.op_isN Lw.op_isBx) ?_; refine Lw.ew_var (i := 1) rfl (.inl rfl) rfl ?_; refine Lw.ew_bl ?_; apply Exists.intro; apply Exists.intro; apply Exists.intro; refine And.intro ?_ ?_; rfl; refine And.intro ?_ ?_; rfl; refine And.intro ?_ ?_; exact Lw.o2_r Lw.o2_isB; refine And.intro ?_ ?_; intro c2; simp only [D.isBl, beq_self_eq_true, Bool.true_eq_false] at c2; intro c2; simp only [D.isBl, beq_self_eq_true] at c2; refine And.intro ?_ ?_; intro c3; simp only at c3; refine Lw.ss_cons ?_; refine Lw.sw_ret ?_; refine Lw.ew_and ?_; refine Lw.ew_callB L2.call_isi rfl (hb.get (by decide)) Lw.bb_isinstance ?_; refine Lw.aw_cons ?_; refine Lw.ew_var (i := 0) rfl (.inl rfl) rfl ?_; refine Lw.aw_cons ?_; refine Lw.ew_ty (n := "bool") (hb.get (by decide)) Lw.bb_bool ?_; refine Lw.aw_nil ?_; apply Exists.intro; apply Exists.intro; refine And.intro ?_ ?_; apply Lw.views_cons rfl; apply Lw.views_cons rfl; exact Lw.views_nil; refine And.intro ?_ ?_; exact Lw.on_isi (b := true) rfl rfl rfl; apply Exists.intro; refine And.intro ?_ ?_; rfl; refine And.intro ?_ ?_; intro c4; simp only at c4; refine Lw.ew_one ?_; refine Lw.ew_cmp (Lw.opr_or L2.op_eq (L2.op_eqD hr.units)) ?_; refine Lw.ew_var (i := 0) rfl (.inl rfl) rfl ?_; refine Lw.ew_var (i := 1) rfl (.inl rfl) rfl ?_; apply Exists.intro; apply Exists.intro; apply Exists.intro; refine And.intro ?_ ?_; rfl; refine And.intro ?_ ?_; rfl; refine And.intro ?_ ?_; exact Lw.o2_l Lw.o2_eqB; refine Exists.intro () ?_; refine And.intro ?_ ?_; refine And.intro ?_ ?_; rfl; exact True.intro; exact True.intro; intro c4; simp only [Bool.true_eq_false] at c4; intro c3; simp only [Bool.true_eq_false] at c3)); (focus (refine Lw.ss_norm (Γ' := [_, _, _]) rfl ?_; refine Lw.ss_cons ?_; refine Lw.sw_if ?_; refine Lw.tw_cmp (Lw.opr_or L2.op_isN Lw.op_isBx) ?_; refine Lw.ew_var (i := 1) rfl (.inl rfl) rfl ?_; refine Lw.ew_non ?_; apply Exists.intro; apply Exists.intro; apply Exists.intro; refine And.intro ?_ ?_; rfl; refine And.intro ?_ ?_; rfl; refine And.intro ?_ ?_; exact Lw.o2_l Lw.o2_isN; refine And.intro ?_ ?_; intro c1; simp only [D.isNon, Bool.false_eq_true] at c1; intro c1; simp only [D.isNon] at c1; refine Lw.ss_nil ?_; refine Lw.ss_cons ?_; refine Lw.sw_if ?_; refine Lw.tw_pw ?_; refine Lw.ww_or ?_; refine Lw.tw_cmp (Lw.opr_or L2.op_isN Lw.op_isBx) ?_; refine Lw.ew_var (i := 1) rfl (.inl rfl) rfl ?_; refine Lw.ew_bl ?_; apply Exists.intro; apply Exists.intro; apply Exists.intro; refine And.intro ?_ ?_; rfl; refine And.intro ?_ ?_; rfl; refine And.intro ?_ ?_; exact Lw.o2_r Lw.o2_isB; refine And.intro ?_ ?_; intro c2; simp only [D.isBl, beq_self_eq_true, Bool.true_eq_false] at c2; intro c2; simp only [D.isBl, beq_self_eq_true] at c2; refine And.intro ?_ ?_; intro c3; simp only at c3; refine Lw.ss_cons ?_; refine Lw.sw_ret ?_; refine Lw.ew_and ?_; refine Lw.ew_callB L2.call_isi rfl (hb.get (by decide)) Lw.bb_isinstance ?_; refine Lw.aw_cons ?_; refine Lw.ew_var (i := 0) rfl (.inl rfl) rfl ?_; refine Lw.aw_cons ?_; refine Lw.ew_ty (n := "bool") (hb.get (by decide)) Lw.bb_bool ?_; refine Lw.aw_nil ?_; apply Exists.intro; apply Exists.intro; refine And.intro ?_ ?_; apply Lw.views_cons rfl; apply Lw.views_cons rfl; exact Lw.views_nil; refine And.intro ?_ ?_; exact Lw.on_isi (b := false) rfl rfl rfl; apply Exists.intro; refine And.intro ?_ ?_; rfl; refine And.intro ?_ ?_; intro c4; simp only [Bool.false_eq_true] at c4; intro c4; simp only at c4; refine Exists.intro () ?_; refine And.intro ?_ ?_; refine And.intro ?_ ?_; rfl; exact True.intro; exact True.intro; intro c3; simp only [Bool.true_eq_false] at c3)); (focus (refine Lw.ss_norm (Γ' := [_, _, _]) rfl ?_; refine Lw.ss_cons ?_; refine Lw.sw_if ?_; refine Lw.tw_cmp (Lw.opr_or L2.op_isN Lw.op_isBx) ?_; refine Lw.ew_var (i := 1) rfl (.inl rfl) rfl ?_; refine Lw.ew_non ?_; apply Exists.intro; apply Exists.intro; apply Exists.intro; refine And.intro ?_ ?_; rfl; refine And.intro ?_ ?_; rfl; refine And.intro ?_ ?_; exact Lw.o2_l Lw.o2_isN; refine And.intro ?_ ?_; intro c1; simp only [D.isNon, Bool.false_eq_true] at c1; intro c1; simp only [D.isNon] at c1; refine Lw.ss_nil ?_; refine Lw.ss_cons ?_; refine Lw.sw_if ?_; refine Lw.tw_pw ?_; refine Lw.ww_or ?_; refine Lw.tw_cmp (Lw.opr_or L2.op_isN Lw.op_isBx) ?_; refine Lw.ew_var (i := 1) rfl (.inl rfl) rfl ?_; refine Lw.ew_bl ?_; apply Exists.intro; apply Exists.intro; apply Exists.intro; refine And.intro ?_ ?_; rfl; refine And.intro ?_ ?_; rfl; refine And.intro ?_ ?_; exact Lw.o2_r Lw.o2_isB; refine And.intro ?_ ?_; intro c2; simp only [D.isBl, beq_self_eq_true, Bool.true_eq_false] at c2; intro c2; simp only [D.isBl, beq_self_eq_true] at c2; refine And.intro ?_ ?_; intro c3; simp only at c3; refine Lw.ss_cons ?_; refine Lw.sw_ret ?_; refine Lw.ew_and ?_; refine Lw.ew_callB L2.call_isi rfl (hb.get (by decide)) Lw.bb_isinstance ?_; refine Lw.aw_cons ?_; refine Lw.ew_var (i := 0) rfl (.inl rfl) rfl ?_; refine Lw.aw_cons ?_; refine Lw.ew_ty (n := "bool") (hb.get (by decide)) Lw.bb_bool ?_; refine Lw.aw_nil ?_; apply Exists.intro; apply Exists.intro; refine And.intro ?_ ?_; apply Lw.views_cons rfl; apply Lw.views_cons rfl; exact Lw.views_nil; refine And.intro ?_ ?_; exact Lw.on_isi (b := false) rfl rfl rfl; apply Exists.intro; refine And.intro ?_ ?_; rfl; refine And.intro ?_ ?_; intro c4; simp only [Bool.false_eq_true] at c4; intro c4; simp only at c4; refine Exists.intro () ?_; refine And.intro ?_ ?_; refine And.intro ?_ ?_; rfl; exact True.intro; exact True.intro; intro c3; simp only [Bool.true_eq_false] at c3)); (focus (refine Lw.ss_norm (Γ' := [_, _, _]) rfl ?_; refine Lw.ss_cons ?_; refine Lw.sw_if ?_; refine Lw.tw_cmp (Lw.opr_or L2.op_isN Lw.op_isBx) ?_; refine Lw.ew_var (i := 1) rfl (.inl rfl) rfl ?_; refine Lw.ew_non ?_; apply Exists.intro; apply Exists.intro; apply Exists.intro; refine And.intro ?_ ?_; rfl; refine And.intro ?_ ?_; rfl; refine And.intro ?_ ?_; exact Lw.o2_l Lw.o2_isN; refine And.intro ?_ ?_; intro c1; simp only [D.isNon, Bool.false_eq_true] at c1; intro c1; simp only [D.isNon] at c1; refine Lw.ss_nil ?_; refine Lw.ss_cons ?_; refine Lw.sw_if ?_; refine Lw.tw_pw ?_; refine Lw.ww_or ?_; refine Lw.tw_cmp (Lw.opr_or L2.op_isN Lw.op_isBx) ?_; refine Lw.ew_var (i := 1) rfl (.inl rfl) rfl ?_; refine Lw.ew_bl ?_; apply Exists.intro; apply Exists.intro; apply Exists.intro; refine And.intro ?_ ?_; rfl; refine And.intro ?_ ?_; rfl; refine And.intro ?_ ?_; exact Lw.o2_r Lw.o2_isB; refine And.intro ?_ ?_; intro c2; simp only [D.isBl, beq_self_eq_true, Bool.true_eq_false] at c2; intro c2; simp only [D.isBl, beq_self_eq_true] at c2; refine And.intro ?_ ?_; intro c3; simp only at c3; refine Lw.ss_cons ?_; refine Lw.sw_ret ?_; refine Lw.ew_and ?_; refine Lw.ew_callB L2.call_isi rfl (hb.get (by decide)) Lw.bb_isinstance ?_; refine Lw.aw_cons ?_; refine Lw.ew_var (i := 0) rfl (.inl rfl) rfl ?_; refine Lw.aw_cons ?_; refine Lw.ew_ty (n := "bool") (hb.get (by decide)) Lw.bb_bool ?_; refine Lw.aw_nil ?_; apply Exists.intro; apply Exists.intro; refine And.intro ?_ ?_; apply Lw.views_cons rfl; apply Lw.views_cons rfl; exact Lw.views_nil; refine And.intro ?_ ?_; exact Lw.on_isi (b := false) rfl rfl rfl; apply Exists.intro; refine And.intro ?_ ?_; rfl; refine And.intro ?_ ?_; intro c4; simp only [Bool.false_eq_true] at c4; intro c4; simp only at c4; refine Exists.intro () ?_; refine And.intro ?_ ?_; refine And.intro ?_ ?_; rfl; exact True.intro; exact True.intro; intro c3; simp only [Bool.true_eq_false] at c3)); (focus (refine Lw.ss_norm (Γ' := [_, _, _]) rfl ?_; refine Lw.ss_cons ?_; refine Lw.sw_if ?_; refine Lw.tw_cmp (Lw.opr_or L2.op_isN Lw.op_isBx) ?_; refine Lw.ew_var (i := 1) rfl (.inl rfl) rfl ?_; refine Lw.ew_non ?_; apply Exists.intro; apply Exists.intro; apply Exists.intro; refine And.intro ?_ ?_; rfl; refine And.intro ?_ ?_; rfl; refine And.intro ?_ ?_; exact Lw.o2_l Lw.o2_isN; refine And.intro ?_ ?_; intro c1; simp only [D.isNon, Bool.false_eq_true] at c1; intro c1; simp only [D.isNon] at c1; refine Lw.ss_nil ?_; refine Lw.ss_cons ?_; refine Lw.sw_if ?_; refine Lw.tw_pw ?_; refine Lw.ww_or ?_; refine Lw.tw_cmp (Lw.opr_or L2.op_isN Lw.op_isBx) ?_; refine Lw.ew_var (i := 1) rfl (.inl rfl) rfl ?_; refine Lw.ew_bl ?_; apply Exists.intro; apply Exists.intro; apply Exists.intro; refine And.intro ?_ ?_; rfl; refine And.intro ?_ ?_; rfl; refine And.intro ?_ ?_; exact Lw.o2_r Lw.o2_isB; refine And.intro ?_ ?_; intro c2; simp only [D.isBl, beq_self_eq_true, Bool.true_eq_false] at c2; intro c2; simp only [D.isBl, beq_self_eq_true] at c2; refine And.intro ?_ ?_; intro c3; simp only at c3; refine Lw.ss_cons ?_; refine Lw.sw_ret ?_; refine Lw.ew_and ?_; refine Lw.ew_callB L2.call_isi rfl (hb.get (by decide)) Lw.bb_isinstance ?_; refine Lw.aw_cons ?_; refine Lw.ew_var (i := 0) rfl (.inl rfl) rfl ?_; refine Lw.aw_cons ?_; refine Lw.ew_ty (n := "bool") (hb.get (by decide)) Lw.bb_bool ?_; refine Lw.aw_nil ?_; apply Exists.intro; apply Exists.intro; refine And.intro ?_ ?_; apply Lw.views_cons rfl; apply Lw.views_cons rfl; exact Lw.views_nil; refine And.intro ?_ ?_; exact Lw.on_isi (b := false) rfl rfl rfl; apply Exists.intro; refine And.intro ?_ ?_; rfl; refine And.intro ?_ ?_; intro c4; simp only [Bool.false_eq_true] at c4; intro c4; simp only at c4; refine Exists.intro () ?_; refine And.intro ?_ ?_; refine And.intro ?_ ?_; rfl; exact True.intro; exact True.intro; intro c3; simp only [Bool.true_eq_false] at c3)))
    all_goals simp [sameD]
  | non =>
    (cases g <;> first | (simp [okN] at hk; done) | skip)
    ((focus (refine Lw.ss_norm (Γ' := [_, _, _]) rfl ?_; refine Lw.ss_cons ?_; refine Lw.sw_if ?_; refine Lw.tw_cmp (Lw.opr_or L2.op_isN Lw.op_isBx) ?_; refine Lw.ew_var (i := 1) rfl (.inl rfl) rfl ?_; refine Lw.ew_non ?_; apply Exists.intro; apply Exists.intro; apply Exists.intro; refine And.intro ?_ ?_; rfl; refine And.intro ?_ ?_; rfl; refine And.intro ?_ ?_; exact Lw.o2_l Lw.o2_isN; refine And.intro ?_ ?_; intro c1; simp only [D.isNon] at c1; refine Lw.ss_cons ?_; refine Lw.sw_ret ?_; refine Lw.ew_cmp (Lw.opr_or L2.op_isN Lw.op_isBx) ?_; refine Lw.ew_var (i := 0) rfl (.inl rfl) rfl ?_; refine Lw.ew_non ?_; apply Exists.intro; apply Exists.intro; apply Exists.intro; refine And.intro ?_ ?_; rfl; refine And.intro ?_ ?_; rfl; refine And.intro ?_ ?_; exact Lw.o2_l Lw.o2_isN; refine Exists.intro () ?_; refine And.intro ?_ ?_; refine And.intro ?_ ?_; rfl; exact True.intro; exact True.intro; intro c1; simp only [D.isNon, Bool.true_eq_false] at c1)); (focus (refine Lw.ss_norm (Γ' := [_, _, _]) rfl ?_; refine Lw.ss_cons ?_; refine Lw.sw_if ?_; refine Lw.tw_cmp (Lw.opr_or L2.op_isN Lw.op_isBx) ?_; refine Lw.ew_var (i := 1) rfl (.inl rfl) rfl ?_; refine Lw.ew_non ?_; apply Exists.intro; apply Exists.intro; apply Exists.intro; refine And.intro ?_ ?_; rfl; refine And.intro ?_ ?_; rfl; refine And.intro ?_ ?_; exact Lw.o2_l Lw.o2_isN; refine And.intro ?_ ?_; intro c1; simp only [D.isNon] at c1; refine Lw.ss_cons ?_; refine Lw.sw_ret ?_; refine Lw.ew_cmp (Lw.opr_or L2.op_isN Lw.op_isBx) ?_; refine Lw.ew_var (i := 0) rfl (.inl rfl) rfl ?_; refine Lw.ew_non ?_; apply Exists.intro; apply Exists.intro; apply Exists.intro; refine And.intro ?_ ?_; rfl; refine And.intro ?_ ?_; rfl; refine And.intro ?_ ?_; exact Lw.o2_l Lw.o2_isN; refine Exists.intro () ?_; refine And.intro ?_ ?_; refine And.intro ?_ ?_; rfl; exact True.intro; exact True.intro; intro c1; simp only [D.isNon, Bool.true_eq_false] at c1)); (focus (refine Lw.ss_norm (Γ' := [_, _, _]) rfl ?_; refine Lw.ss_cons ?_; refine Lw.sw_if ?_; refine Lw.tw_cmp (Lw.opr_or L2.op_isN Lw.op_isBx) ?_; refine Lw.ew_var (i := 1) rfl (.inl rfl) rfl ?_; refine Lw.ew_non ?_; apply Exists.intro; apply Exists.intro; apply Exists.intro; refine And.intro ?_ ?_; rfl; refine And.intro ?_ ?_; rfl; refine And.intro ?_ ?_; exact Lw.o2_l Lw.o2_isN; refine And.intro ?_ ?_; intro c1; simp only [D.isNon] at c1; refine Lw.ss_cons ?_; refine Lw.sw_ret ?_; refine Lw.ew_cmp (Lw.opr_or L2.op_isN Lw.op_isBx) ?_; refine Lw.ew_var (i := 0) rfl (.inl rfl) rfl ?_; refine Lw.ew_non ?_; apply Exists.intro; apply Exists.intro; apply Exists.intro; refine And.intro ?_ ?_; rfl; refine And.intro ?_ ?_; rfl; refine And.intro ?_ ?_; exact Lw.o2_l Lw.o2_isN; refine Exists.intro () ?_; refine And.intro ?_ ?_; refine And.intro ?_ ?_; rfl; exact True.intro; exact True.intro; intro c1; simp only [D.isNon, Bool.true_eq_false] at c1)); (focus (refine Lw.ss_norm (Γ' := [_, _, _]) rfl ?_; refine Lw.ss_cons ?_; refine Lw.sw_if ?_; refine Lw.tw_cmp (Lw.opr_or L2.op_isN Lw.op_isBx) ?_; refine Lw.ew_var (i := 1) rfl (.inl rfl) rfl ?_; refine Lw.ew_non ?_; apply Exists.intro; apply Exists.intro; apply Exists.intro; refine And.intro ?_ ?_; rfl; refine And.intro ?_ ?_; rfl; refine And.intro ?_ ?_; exact Lw.o2_l Lw.o2_isN; refine And.intro ?_ ?_; intro c1; simp only [D.isNon] at c1; refine Lw.ss_cons ?_; refine Lw.sw_ret ?_; refine Lw.ew_cmp (Lw.opr_or L2.op_isN Lw.op_isBx) ?_; refine Lw.ew_var (i := 0) rfl (.inl rfl) rfl ?_; refine Lw.ew_non ?_; apply Exists.intro; apply Exists.intro; apply Exists.intro; refine And.intro ?_ ?_; rfl; refine And.intro ?_ ?_; rfl; refine And.intro ?_ ?_; exact Lw.o2_l Lw.o2_isN; refine Exists.intro () ?_; refine And.intro ?_ ?_; refine And.intro ?_ ?_; rfl; exact True.intro; exact True.intro; intro c1; simp only [D.isNon, Bool.true_eq_false] at c1)); (focus (refine Lw.ss_norm (Γ' := [_, _, _]) rfl ?_; refine Lw.ss_cons ?_; refine Lw.sw_if ?_; refine Lw.tw_cmp (Lw.opr_or L2.op_isN Lw.op_isBx) ?_; refine Lw.ew_var (i := 1) rfl (.inl rfl) rfl ?_; refine Lw.ew_non ?_; apply Exists.intro; apply Exists.intro; apply Exists.intro; refine And.intro ?_ ?_; rfl; refine And.intro ?_ ?_; rfl; refine And.intro ?_ ?_; exact Lw.o2_l Lw.o2_isN; refine And.intro ?_ ?_; intro c1; simp only [D.isNon] at c1; refine Lw.ss_cons ?_; refine Lw.sw_ret ?_; refine Lw.ew_cmp (Lw.opr_or L2.op_isN Lw.op_isBx) ?_; refine Lw.ew_var (i := 0) rfl (.inl rfl) rfl ?_; refine Lw.ew_non ?_; apply Exists.intro; apply Exists.intro; apply Exists.intro; refine And.intro ?_ ?_; rfl; refine And.intro ?_ ?_; rfl; refine And.intro ?_ ?_; exact Lw.o2_l Lw.o2_isN; refine Exists.intro () ?_; refine And.intro ?_ ?_; refine And.intro ?_ ?_; rfl; exact True.intro; exact True.intro; intro c1; simp only [D.isNon, Bool.true_eq_false] at c1)); (focus (refine Lw.ss_norm (Γ' := [_, _, _]) rfl ?_; refine Lw.ss_cons ?_; refine Lw.sw_if ?_; refine Lw.tw_cmp (Lw.opr_or L2.op_isN Lw.op_isBx) ?_; refine Lw.ew_var (i := 1) rfl (.inl rfl) rfl ?_; refine Lw.ew_non ?_; apply Exists.intro; apply Exists.intro; apply Exists.intro; refine And.intro ?_ ?_; rfl; refine And.intro ?_ ?_; rfl; refine And.intro ?_ ?_; exact Lw.o2_l Lw.o2_isN; refine And.intro ?_ ?_; intro c1; simp only [D.isNon] at c1; refine Lw.ss_cons ?_; refine Lw.sw_ret ?_; refine Lw.ew_cmp (Lw.opr_or L2.op_isN Lw.op_isBx) ?_; refine Lw.ew_var (i := 0) rfl (.inl rfl) rfl ?_; refine Lw.ew_non ?_; apply Exists.intro; apply Exists.intro; apply Exists.intro; refine And.intro ?_ ?_; rfl; refine And.intro ?_ ?_; rfl; refine And.intro ?_ ?_; exact Lw.o2_l Lw.o2_isN; refine Exists.intro () ?_; refine And.intro ?_ ?_; refine And.intro ?_ ?_; rfl; exact True.intro; exact True.intro; intro c1; simp only [D.isNon, Bool.true_eq_false] at c1)))
    all_goals simp [sameD]
  | int b =>
    (cases g <;> first | (simp [okN] at hk; done) | skip)
    ((focus (refine Lw.ss_norm (Γ' := [_, _, _]) rfl ?_; refine Lw.ss_cons ?_; refine Lw.sw_if ?_; refine Lw.tw_cmp (Lw.opr_or L2.op_isN Lw.op_isBx) ?_; refine Lw.ew_var (i := 1) rfl (.inl rfl) rfl ?_; refine Lw.ew_non ?_; apply Exists.intro; apply Exists.intro; apply Exists.intro; refine And.intro ?_ ?_; rfl; refine And.intro ?_ ?_; rfl; refine And.intro ?_ ?_; exact Lw.o2_l Lw.o2_isN; refine And.intro ?_ ?_; intro c1; simp only [D.isNon, Bool.false_eq_true] at c1; intro c1; simp only [D.isNon] at c1; refine Lw.ss_nil ?_; refine Lw.ss_cons ?_; refine Lw.sw_if ?_; refine Lw.tw_pw ?_; refine Lw.ww_or ?_; refine Lw.tw_cmp (Lw.opr_or L2.op_isN Lw.op_isBx) ?_; refine Lw.ew_var (i := 1) rfl (.inl rfl) rfl ?_; refine Lw.ew_bl ?_; apply Exists.intro; apply Exists.intro; apply Exists.intro; refine And.intro ?_ ?_; rfl; refine And.intro ?_ ?_; rfl; refine And.intro ?_ ?_; exact Lw.o2_r Lw.o2_isB; refine And.intro ?_ ?_; intro c2; simp only [D.isBl] at c2; refine Lw.ww_or1 ?_; refine Lw.tw_cmp (Lw.opr_or L2.op_isN Lw.op_isBx) ?_; refine Lw.ew_var (i := 1) rfl (.inl rfl) rfl ?_; refine Lw.ew_bl ?_; apply Exists.intro; apply Exists.intro; apply Exists.intro; refine And.intro ?_ ?_; rfl; refine And.intro ?_ ?_; rfl; refine And.intro ?_ ?_; exact Lw.o2_r Lw.o2_isB; refine And.intro ?_ ?_; intro c3; simp only [D.isBl, Bool.false_eq_true] at c3; intro c3; simp only [D.isBl] at c3; refine Lw.ss_nil ?_; refine Lw.ss_cons ?_; refine Lw.sw_if ?_; refine Lw.tw_val ?_; refine Lw.ew_callB L2.call_isi rfl (hb.get (by decide)) Lw.bb_isinstance ?_; refine Lw.aw_cons ?_; refine Lw.ew_var (i := 1) rfl (.inl rfl) rfl ?_; refine Lw.aw_cons ?_; refine Lw.ew_ty (n := "int") (hb.get (by decide)) Lw.bb_int ?_; refine Lw.aw_nil ?_; apply Exists.intro; apply Exists.intro; refine And.intro ?_ ?_; apply Lw.views_cons rfl; apply Lw.views_cons rfl; exact Lw.views_nil; refine And.intro ?_ ?_; exact Lw.on_isi (b := true) rfl rfl rfl; apply Exists.intro; apply Exists.intro; refine And.intro ?_ ?_; rfl; refine And.intro ?_ ?_; rfl; refine And.intro ?_ ?_; intro c4; simp only at c4; refine Lw.ss_cons ?_; refine Lw.sw_ret ?_; refine Lw.ew_and ?_; refine Lw.ew_call d1 (hr.mono (by omega)) tk ?_; refine Lw.aw_cons ?_; refine Lw.ew_var (i := 0) rfl (.inl rfl) rfl ?_; refine Lw.aw_nil ?_; apply Lw.callPost_1; refine And.intro ?_ ?_; refine And.intro ?_ ?_; rfl; exact True.intro; refine And.intro ?_ ?_; assumption; refine And.intro ?_ ?_; dsimp only [Tst.cIsInt, Lw.Ct.det]; assumption; rintro ⟨⟩ -; refine And.intro ?_ ?_; rfl; refine Lw.outP_eq rfl ?_; apply Exists.intro; refine And.intro ?_ ?_; rfl; refine And.intro ?_ ?_; intro c5; simp only [Bool.false_eq_true] at c5; intro c5; simp only at c5; refine Exists.intro () ?_; refine And.intro ?_ ?_; refine And.intro ?_ ?_; rfl; exact True.intro; exact True.intro; intro c4; simp only [Bool.true_eq_false] at c4; intro c2; simp only [D.isBl, Bool.false_eq_true] at c2)); (focus (refine Lw.ss_norm (Γ' := [_, _, _]) rfl ?_; refine Lw.ss_cons ?_; refine Lw.sw_if ?_; refine Lw.tw_cmp (Lw.opr_or L2.op_isN Lw.op_isBx) ?_; refine Lw.ew_var (i := 1) rfl (.inl rfl) rfl ?_; refine Lw.ew_non ?_; apply Exists.intro; apply Exists.intro; apply Exists.intro; refine And.intro ?_ ?_; rfl; refine And.intro ?_ ?_; rfl; refine And.intro ?_ ?_; exact Lw.o2_l Lw.o2_isN; refine And.intro ?_ ?_; intro c1; simp only [D.isNon, Bool.false_eq_true] at c1; intro c1; simp only [D.isNon] at c1; refine Lw.ss_nil ?_; refine Lw.ss_cons ?_; refine Lw.sw_if ?_; refine Lw.tw_pw ?_; refine Lw.ww_or ?_; refine Lw.tw_cmp (Lw.opr_or L2.op_isN Lw.op_isBx) ?_; refine Lw.ew_var (i := 1) rfl (.inl rfl) rfl ?_; refine Lw.ew_bl ?_; apply Exists.intro; apply Exists.intro; apply Exists.intro; refine And.intro ?_ ?_; rfl; refine And.intro ?_ ?_; rfl; refine And.intro ?_ ?_; exact Lw.o2_r Lw.o2_isB; refine And.intro ?_ ?_; intro c2; simp only [D.isBl] at c2; refine Lw.ww_or1 ?_; refine Lw.tw_cmp (Lw.opr_or L2.op_isN Lw.op_isBx) ?_; refine Lw.ew_var (i := 1) rfl (.inl rfl) rfl ?_; refine Lw.ew_bl ?_; apply Exists.intro; apply Exists.intro; apply Exists.intro; refine And.intro ?_ ?_; rfl; refine And.intro ?_ ?_; rfl; refine And.intro ?_ ?_; exact Lw.o2_r Lw.o2_isB; refine And.intro ?_ ?_; intro c3; simp only [D.isBl, Bool.false_eq_true] at c3; intro c3; simp only [D.isBl] at c3; refine Lw.ss_nil ?_; refine Lw.ss_cons ?_; refine Lw.sw_if ?_; refine Lw.tw_val ?_; refine Lw.ew_callB L2.call_isi rfl (hb.get (by decide)) Lw.bb_isinstance ?_; refine Lw.aw_cons ?_; refine Lw.ew_var (i := 1) rfl (.inl rfl) rfl ?_; refine Lw.aw_cons ?_; refine Lw.ew_ty (n := "int") (hb.get (by decide)) Lw.bb_int ?_; refine Lw.aw_nil ?_; apply Exists.intro; apply Exists.intro; refine And.intro ?_ ?_; apply Lw.views_cons rfl; apply Lw.views_cons rfl; exact Lw.views_nil; refine And.intro ?_ ?_; exact Lw.on_isi (b := true) rfl rfl rfl; apply Exists.intro; apply Exists.intro; refine And.intro ?_ ?_; rfl; refine And.intro ?_ ?_; rfl; refine And.intro ?_ ?_; intro c4; simp only at c4; refine Lw.ss_cons ?_; refine Lw.sw_ret ?_; refine Lw.ew_and ?_; refine Lw.ew_call d1 (hr.mono (by omega)) tk ?_; refine Lw.aw_cons ?_; refine Lw.ew_var (i := 0) rfl (.inl rfl) rfl ?_; refine Lw.aw_nil ?_; apply Lw.callPost_1; refine And.intro ?_ ?_; refine And.intro ?_ ?_; rfl; exact True.intro; refine And.intro ?_ ?_; assumption; refine And.intro ?_ ?_; dsimp only [Tst.cIsInt, Lw.Ct.det]; assumption; rintro ⟨⟩ -; refine And.intro ?_ ?_; rfl; refine Lw.outP_eq rfl ?_; apply Exists.intro; refine And.intro ?_ ?_; rfl; refine And.intro ?_ ?_; intro c5; simp only [Bool.false_eq_true] at c5; intro c5; simp only at c5; refine Exists.intro () ?_; refine And.intro ?_ ?_; refine And.intro ?_ ?_; rfl; exact True.intro; exact True.intro; intro c4; simp only [Bool.true_eq_false] at c4; intro c2; simp only [D.isBl, Bool.false_eq_true] at c2)); (focus (refine Lw.ss_norm (Γ' := [_, _, _]) rfl ?_; refine Lw.ss_cons ?_; refine Lw.sw_if ?_; refine Lw.tw_cmp (Lw.opr_or L2.op_isN Lw.op_isBx) ?_; refine Lw.ew_var (i := 1) rfl (.inl rfl) rfl ?_; refine Lw.ew_non ?_; apply Exists.intro; apply Exists.intro; apply Exists.intro; refine And.intro ?_ ?_; rfl; refine And.intro ?_ ?_; rfl; refine And.intro ?_ ?_; exact Lw.o2_l Lw.o2_isN; refine And.intro ?_ ?_; intro c1; simp only [D.isNon, Bool.false_eq_true] at c1; intro c1; simp only [D.isNon] at c1; refine Lw.ss_nil ?_; refine Lw.ss_cons ?_; refine Lw.sw_if ?_; refine Lw.tw_pw ?_; refine Lw.ww_or ?_; refine Lw.tw_cmp (Lw.opr_or L2.op_isN Lw.op_isBx) ?_; refine Lw.ew_var (i := 1) rfl (.inl rfl) rfl ?_; refine Lw.ew_bl ?_; apply Exists.intro; apply Exists.intro; apply Exists.intro; refine And.intro ?_ ?_; rfl; refine And.intro ?_ ?_; rfl; refine And.intro ?_ ?_; exact Lw.o2_r Lw.o2_isB; refine And.intro ?_ ?_; intro c2; simp only [D.isBl] at c2; refine Lw.ww_or1 ?_; refine Lw.tw_cmp (Lw.opr_or L2.op_isN Lw.op_isBx) ?_; refine Lw.ew_var (i := 1) rfl (.inl rfl) rfl ?_; refine Lw.ew_bl ?_; apply Exists.intro; apply Exists.intro; apply Exists.intro; refine And.intro ?_ ?_; rfl; refine And.intro ?_ ?_; rfl; refine And.intro ?_ ?_; exact Lw.o2_r Lw.o2_isB; refine And.intro ?_ ?_; intro c3; simp only [D.isBl, Bool.false_eq_true] at c3; intro c3; simp only [D.isBl] at c3; refine Lw.ss_nil ?_; refine Lw.ss_cons ?_; refine Lw.sw_if ?_; refine Lw.tw_val ?_; refine Lw.ew_callB L2.call_isi rfl (hb.get (by decide)) Lw.bb_isinstance ?_; refine Lw.aw_cons ?_; refine Lw.ew_var (i := 1) rfl (.inl rfl) rfl ?_; refine Lw.aw_cons ?_; refine Lw.ew_ty (n := "int") (hb.get (by decide)) Lw.bb_int ?_; refine Lw.aw_nil ?_; apply Exists.intro; apply Exists.intro; refine And.intro ?_ ?_; apply Lw.views_cons rfl; apply Lw.views_cons rfl; exact Lw.views_nil; refine And.intro ?_ ?_; exact Lw.on_isi (b := true) rfl rfl rfl; apply Exists.intro; apply Exists.intro; refine And.intro ?_ ?_; rfl; refine And.intro ?_ ?_; rfl; refine And.intro ?_ ?_; intro c4; simp only at c4; refine Lw.ss_cons ?_; refine Lw.sw_ret ?_; refine Lw.ew_and ?_; refine Lw.ew_call d1 (hr.mono (by omega)) tk ?_; refine Lw.aw_cons ?_; refine Lw.ew_var (i := 0) rfl (.inl rfl) rfl ?_; refine Lw.aw_nil ?_; apply Lw.callPost_1; refine And.intro ?_ ?_; refine And.intro ?_ ?_; rfl; exact True.intro; refine And.intro ?_ ?_; assumption; refine And.intro ?_ ?_; dsimp only [Tst.cIsInt, Lw.Ct.det]; assumption; rintro ⟨⟩ -; refine And.intro ?_ ?_; rfl; refine Lw.outP_eq rfl ?_; apply Exists.intro; refine And.intro ?_ ?_; rfl; refine And.intro ?_ ?_; intro c5; simp only at c5; refine Lw.ew_one ?_; refine Lw.ew_cmp (Lw.opr_or L2.op_eq (L2.op_eqD hr.units)) ?_; refine Lw.ew_var (i := 0) rfl (.inl rfl) rfl ?_; refine Lw.ew_var (i := 1) rfl (.inl rfl) rfl ?_; apply Exists.intro; apply Exists.intro; apply Exists.intro; refine And.intro ?_ ?_; rfl; refine And.intro ?_ ?_; rfl; refine And.intro ?_ ?_; exact Lw.o2_l Lw.o2_eqI; refine Exists.intro () ?_; refine And.intro ?_ ?_; refine And.intro ?_ ?_; rfl; exact True.intro; exact True.intro; intro c5; simp only [Bool.true_eq_false] at c5; intro c4; simp only [Bool.true_eq_false] at c4; intro c2; simp only [D.isBl, Bool.false_eq_true] at c2)); (focus (refine Lw.ss_norm (Γ' := [_, _, _]) rfl ?_; refine Lw.ss_cons ?_; refine Lw.sw_if ?_; refine Lw.tw_cmp (Lw.opr_or L2.op_isN Lw.op_isBx) ?_; refine Lw.ew_var (i := 1) rfl (.inl rfl) rfl ?_; refine Lw.ew_non ?_; apply Exists.intro; apply Exists.intro; apply Exists.intro; refine And.intro ?_ ?_; rfl; refine And.intro ?_ ?_; rfl; refine And.intro ?_ ?_; exact Lw.o2_l Lw.o2_isN; refine And.intro ?_ ?_; intro c1; simp only [D.isNon, Bool.false_eq_true] at c1; intro c1; simp only [D.isNon] at c1; refine Lw.ss_nil ?_; refine Lw.ss_cons ?_; refine Lw.sw_if ?_; refine Lw.tw_pw ?_; refine Lw.ww_or ?_; refine Lw.tw_cmp (Lw.opr_or L2.op_isN Lw.op_isBx) ?_; refine Lw.ew_var (i := 1) rfl (.inl rfl) rfl ?_; refine Lw.ew_bl ?_; apply Exists.intro; apply Exists.intro; apply Exists.intro; refine And.intro ?_ ?_; rfl; refine And.intro ?_ ?_; rfl; refine And.intro ?_ ?_; exact Lw.o2_r Lw.o2_isB; refine And.intro ?_ ?_; intro c2; simp only [D.isBl] at c2; refine Lw.ww_or1 ?_; refine Lw.tw_cmp (Lw.opr_or L2.op_isN Lw.op_isBx) ?_; refine Lw.ew_var (i := 1) rfl (.inl rfl) rfl ?_; refine Lw.ew_bl ?_; apply Exists.intro; apply Exists.intro; apply Exists.intro; refine And.intro ?_ ?_; rfl; refine And.intro ?_ ?_; rfl; refine And.intro ?_ ?_; exact Lw.o2_r Lw.o2_isB; refine And.intro ?_ ?_; intro c3; simp only [D.isBl, Bool.false_eq_true] at c3; intro c3; simp only [D.isBl] at c3; refine Lw.ss_nil ?_; refine Lw.ss_cons ?_; refine Lw.sw_if ?_; refine Lw.tw_val ?_; refine Lw.ew_callB L2.call_isi rfl (hb.get (by decide)) Lw.bb_isinstance ?_; refine Lw.aw_cons ?_; refine Lw.ew_var (i := 1) rfl (.inl rfl) rfl ?_; refine Lw.aw_cons ?_; refine Lw.ew_ty (n := "int") (hb.get (by decide)) Lw.bb_int ?_; refine Lw.aw_nil ?_; apply Exists.intro; apply Exists.intro; refine And.intro ?_ ?_; apply Lw.views_cons rfl; apply Lw.views_cons rfl; exact Lw.views_nil; refine And.intro ?_ ?_; exact Lw.on_isi (b := true) rfl rfl rfl; apply Exists.intro; apply Exists.intro; refine And.intro ?_ ?_; rfl; refine And.intro ?_ ?_; rfl; refine And.intro ?_ ?_; intro c4; simp only at c4; refine Lw.ss_cons ?_; refine Lw.sw_ret ?_; refine Lw.ew_and ?_; refine Lw.ew_call d1 (hr.mono (by omega)) tk ?_; refine Lw.aw_cons ?_; refine Lw.ew_var (i := 0) rfl (.inl rfl) rfl ?_; refine Lw.aw_nil ?_; apply Lw.callPost_1; refine And.intro ?_ ?_; refine And.intro ?_ ?_; rfl; exact True.intro; refine And.intro ?_ ?_; assumption; refine And.intro ?_ ?_; dsimp only [Tst.cIsInt, Lw.Ct.det]; assumption; rintro ⟨⟩ -; refine And.intro ?_ ?_; rfl; refine Lw.outP_eq rfl ?_; apply Exists.intro; refine And.intro ?_ ?_; rfl; refine And.intro ?_ ?_; intro c5; simp only [Bool.false_eq_true] at c5; intro c5; simp only at c5; refine Exists.intro () ?_; refine And.intro ?_ ?_; refine And.intro ?_ ?_; rfl; exact True.intro; exact True.intro; intro c4; simp only [Bool.true_eq_false] at c4; intro c2; simp only [D.isBl, Bool.false_eq_true] at c2)); (focus (refine Lw.ss_norm (Γ' := [_, _, _]) rfl ?_; refine Lw.ss_cons ?_; refine Lw.sw_if ?_; refine Lw.tw_cmp (Lw.opr_or L2.op_isN Lw.op_isBx) ?_; refine Lw.ew_var (i := 1) rfl (.inl rfl) rfl ?_; refine Lw.ew_non ?_; apply Exists.intro; apply Exists.intro; apply Exists.intro; refine And.intro ?_ ?_; rfl; refine And.intro ?_ ?_; rfl; refine And.intro ?_ ?_; exact Lw.o2_l Lw.o2_isN; refine And.intro ?_ ?_; intro c1; simp only [D.isNon, Bool.false_eq_true] at c1; intro c1; simp only [D.isNon] at c1; refine Lw.ss_nil ?_; refine Lw.ss_cons ?_; refine Lw.sw_if ?_; refine Lw.tw_pw ?_; refine Lw.ww_or ?_; refine Lw.tw_cmp (Lw.opr_or L2.op_isN Lw.op_isBx) ?_; refine Lw.ew_var (i := 1) rfl (.inl rfl) rfl ?_; refine Lw.ew_bl ?_; apply Exists.intro; apply Exists.intro; apply Exists.intro; refine And.intro ?_ ?_; rfl; refine And.intro ?_ ?_; rfl; refine And.intro ?_ ?_; exact Lw.o2_r Lw.o2_isB; refine And.intro ?_ ?_; intro c2; simp only [D.isBl] at c2; refine Lw.ww_or1 ?_; refine Lw.tw_cmp (Lw.opr_or L2.op_isN Lw.op_isBx) ?_; refine Lw.ew_var (i := 1) rfl (.inl rfl) rfl ?_; refine Lw.ew_bl ?_; apply Exists.intro; apply Exists.intro; apply Exists.intro; refine And.intro ?_ ?_; rfl; refine And.intro ?_ ?_; rfl; refine And.intro ?_ ?_; exact Lw.o2_r Lw.o2_isB; refine And.intro ?_ ?_; intro c3; simp only [D.isBl, Bool.false_eq_true] at c3; intro c3; simp only [D.isBl] at c3; refine Lw.ss_nil ?_; refine Lw.ss_cons ?_; refine Lw.sw_if ?_; refine Lw.tw_val ?_; refine Lw.ew_callB L2.call_isi rfl (hb.get (by decide)) Lw.bb_isinstance ?_; refine Lw.aw_cons ?_; refine Lw.ew_var (i := 1) rfl (.inl rfl) rfl ?_; refine Lw.aw_cons ?_; refine Lw.ew_ty (n := "int") (hb.get (by decide)) Lw.bb_int ?_; refine Lw.aw_nil ?_; apply Exists.intro; apply Exists.intro; refine And.intro ?_ ?_; apply Lw.views_cons rfl; apply Lw.views_cons rfl; exact Lw.views_nil; refine And.intro ?_ ?_; exact Lw.on_isi (b := true) rfl rfl rfl; apply Exists.intro; apply Exists.intro; refine And.intro ?_ ?_; rfl; refine And.intro ?_ ?_; rfl; refine And.intro ?_ ?_; intro c4; simp only at c4; refine Lw.ss_cons ?_; refine Lw.sw_ret ?_; refine Lw.ew_and ?_; refine Lw.ew_call d1 (hr.mono (by omega)) tk ?_; refine Lw.aw_cons ?_; refine Lw.ew_var (i := 0) rfl (.inl rfl) rfl ?_; refine Lw.aw_nil ?_; apply Lw.callPost_1; refine And.intro ?_ ?_; refine And.intro ?_ ?_; rfl; exact True.intro; refine And.intro ?_ ?_; assumption; refine And.intro ?_ ?_; dsimp only [Tst.cIsInt, Lw.Ct.det]; assumption; rintro ⟨⟩ -; refine And.intro ?_ ?_; rfl; refine Lw.outP_eq rfl ?_; apply Exists.intro; refine And.intro ?_ ?_; rfl; refine And.intro ?_ ?_; intro c5; simp only [Bool.false_eq_true] at c5; intro c5; simp only at c5; refine Exists.intro () ?_; refine And.intro ?_ ?_; refine And.intro ?_ ?_; rfl; exact True.intro; exact True.intro; intro c4; simp only [Bool.true_eq_false] at c4; intro c2; simp only [D.isBl, Bool.false_eq_true] at c2)); (focus (refine Lw.ss_norm (Γ' := [_, _, _]) rfl ?_; refine Lw.ss_cons ?_; refine Lw.sw_if ?_; refine Lw.tw_cmp (Lw.opr_or L2.op_isN Lw.op_isBx) ?_; refine Lw.ew_var (i := 1) rfl (.inl rfl) rfl ?_; refine Lw.ew_non ?_; apply Exists.intro; apply Exists.intro; apply Exists.intro; refine And.intro ?_ ?_; rfl; refine And.intro ?_ ?_; rfl; refine And.intro ?_ ?_; exact Lw.o2_l Lw.o2_isN; refine And.intro ?_ ?_; intro c1; simp only [D.isNon, Bool.false_eq_true] at c1; intro c1; simp only [D.isNon] at c1; refine Lw.ss_nil ?_; refine Lw.ss_cons ?_; refine Lw.sw_if ?_; refine Lw.tw_pw ?_; refine Lw.ww_or ?_; refine Lw.tw_cmp (Lw.opr_or L2.op_isN Lw.op_isBx) ?_; refine Lw.ew_var (i := 1) rfl (.inl rfl) rfl ?_; refine Lw.ew_bl ?_; apply Exists.intro; apply Exists.intro; apply Exists.intro; refine And.intro ?_ ?_; rfl; refine And.intro ?_ ?_; rfl; refine And.intro ?_ ?_; exact Lw.o2_r Lw.o2_isB; refine And.intro ?_ ?_; intro c2; simp only [D.isBl] at c2; refine Lw.ww_or1 ?_; refine Lw.tw_cmp (Lw.opr_or L2.op_isN Lw.op_isBx) ?_; refine Lw.ew_var (i := 1) rfl (.inl rfl) rfl ?_; refine Lw.ew_bl ?_; apply Exists.intro; apply Exists.intro; apply Exists.intro; refine And.intro ?_ ?_; rfl; refine And.intro ?_ ?_; rfl; refine And.intro ?_ ?_; exact Lw.o2_r Lw.o2_isB; refine And.intro ?_ ?_; intro c3; simp only [D.isBl, Bool.false_eq_true] at c3; intro c3; simp only [D.isBl] at c3; refine Lw.ss_nil ?_; refine Lw.ss_cons ?_; refine Lw.sw_if ?_; refine Lw.tw_val ?_; refine Lw.ew_callB L2.call_isi rfl (hb.get (by decide)) Lw.bb_isinstance ?_; refine Lw.aw_cons ?_; refine Lw.ew_var (i := 1) rfl (.inl rfl) rfl ?_; refine Lw.aw_cons ?_; refine Lw.ew_ty (n := "int") (hb.get (by decide)) Lw.bb_int ?_; refine Lw.aw_nil ?_; apply Exists.intro; apply Exists.intro; refine And.intro ?_ ?_; apply Lw.views_cons rfl; apply Lw.views_cons rfl; exact Lw.views_nil; refine And.intro ?_ ?_; exact Lw.on_isi (b := true) rfl rfl rfl; apply Exists.intro; apply Exists.intro; refine And.intro ?_ ?_; rfl; refine And.intro ?_ ?_; rfl; refine And.intro ?_ ?_; intro c4; simp only at c4; refine Lw.ss_cons ?_; refine Lw.sw_ret ?_; refine Lw.ew_and ?_; refine Lw.ew_call d1 (hr.mono (by omega)) tk ?_; refine Lw.aw_cons ?_; refine Lw.ew_var (i := 0) rfl (.inl rfl) rfl ?_; refine Lw.aw_nil ?_; apply Lw.callPost_1; refine And.intro ?_ ?_; refine And.intro ?_ ?_; rfl; exact True.intro; refine And.intro ?_ ?_; assumption; refine And.intro ?_ ?_; dsimp only [Tst.cIsInt, Lw.Ct.det]; assumption; rintro ⟨⟩ -; refine And.intro ?_ ?_; rfl; refine Lw.outP_eq rfl ?_; apply Exists.intro; refine And.intro ?_ ?_; rfl; refine And.intro ?_ ?_; intro c5; simp only [Bool.false_eq_true] at c5; intro c5; simp only at c5; refine Exists.intro () ?_; refine And.intro ?_ ?_; refine And.intro ?_ ?_; rfl; exact True.intro; exact True.intro; intro c4; simp only [Bool.true_eq_false] at c4; intro c2; simp only [D.isBl, Bool.false_eq_true] at c2)))
    all_goals first | (simp [sameD]; done) | trace_state
  | str b =>
    (cases g <;> first | (simp [okN] at hk; done) | skip)
    ((focus (refine Lw.ss_norm (Γ' := [_, _, _]) rfl ?_; refine Lw.ss_cons ?_; refine Lw.sw_if ?_; refine Lw.tw_cmp (Lw.opr_or L2.op_isN Lw.op_isBx) ?_; refine Lw.ew_var (i := 1) rfl (.inl rfl) rfl ?_; refine Lw.ew_non ?_; apply Exists.intro; apply Exists.intro; apply Exists.intro; refine And.intro ?_ ?_; rfl; refine And.intro ?_ ?_; rfl; refine And.intro ?_ ?_; exact Lw.o2_l Lw.o2_isN; refine And.intro ?_ ?_; intro c1; simp only [D.isNon, Bool.false_eq_true] at c1; intro c1; simp only [D.isNon] at c1; refine Lw.ss_nil ?_; refine Lw.ss_cons ?_; refine Lw.sw_if ?_; refine Lw.tw_pw ?_; refine Lw.ww_or ?_; refine Lw.tw_cmp (Lw.opr_or L2.op_isN Lw.op_isBx) ?_; refine Lw.ew_var (i := 1) rfl (.inl rfl) rfl ?_; refine Lw.ew_bl ?_; apply Exists.intro; apply Exists.intro; apply Exists.intro; refine And.intro ?_ ?_; rfl; refine And.intro ?_ ?_; rfl; refine And.intro ?_ ?_; exact Lw.o2_r Lw.o2_isB; refine And.intro ?_ ?_; intro c2; simp only [D.isBl] at c2; refine Lw.ww_or1 ?_; refine Lw.tw_cmp (Lw.opr_or L2.op_isN Lw.op_isBx) ?_; refine Lw.ew_var (i := 1) rfl (.inl rfl) rfl ?_; refine Lw.ew_bl ?_; apply Exists.intro; apply Exists.intro; apply Exists.intro; refine And.intro ?_ ?_; rfl; refine And.intro ?_ ?_; rfl; refine And.intro ?_ ?_; exact Lw.o2_r Lw.o2_isB; refine And.intro ?_ ?_; intro c3; simp only [D.isBl, Bool.false_eq_true] at c3; intro c3; simp only [D.isBl] at c3; refine Lw.ss_nil ?_; refine Lw.ss_cons ?_; refine Lw.sw_if ?_; refine Lw.tw_val ?_; refine Lw.ew_callB L2.call_isi rfl (hb.get (by decide)) Lw.bb_isinstance ?_; refine Lw.aw_cons ?_; refine Lw.ew_var (i := 1) rfl (.inl rfl) rfl ?_; refine Lw.aw_cons ?_; refine Lw.ew_ty (n := "int") (hb.get (by decide)) Lw.bb_int ?_; refine Lw.aw_nil ?_; apply Exists.intro; apply Exists.intro; refine And.intro ?_ ?_; apply Lw.views_cons rfl; apply Lw.views_cons rfl; exact Lw.views_nil; refine And.intro ?_ ?_; exact Lw.on_isi (b := false) rfl rfl rfl; apply Exists.intro; apply Exists.intro; refine And.intro ?_ ?_; rfl; refine And.intro ?_ ?_; rfl; refine And.intro ?_ ?_; intro c4; simp only [Bool.false_eq_true] at c4; intro c4; simp only at c4; refine Lw.ss_nil ?_; refine Lw.ss_cons ?_; refine Lw.sw_if ?_; refine Lw.tw_val ?_; refine Lw.ew_callB L2.call_isi rfl (hb.get (by decide)) Lw.bb_isinstance ?_; refine Lw.aw_cons ?_; refine Lw.ew_var (i := 1) rfl (.inl rfl) rfl ?_; refine Lw.aw_cons ?_; refine Lw.ew_ty (n := "str") (hb.get (by decide)) Lw.bb_str ?_; refine Lw.aw_nil ?_; apply Exists.intro; apply Exists.intro; refine And.intro ?_ ?_; apply Lw.views_cons rfl; apply Lw.views_cons rfl; exact Lw.views_nil; refine And.intro ?_ ?_; exact Lw.on_isi (b := true) rfl rfl rfl; apply Exists.intro; apply Exists.intro; refine And.intro ?_ ?_; rfl; refine And.intro ?_ ?_; rfl; refine And.intro ?_ ?_; intro c5; simp only at c5; refine Lw.ss_cons ?_; refine Lw.sw_ret ?_; refine Lw.ew_and ?_; refine Lw.ew_callB L2.call_isi rfl (hb.get (by decide)) Lw.bb_isinstance ?_; refine Lw.aw_cons ?_; refine Lw.ew_var (i := 0) rfl (.inl rfl) rfl ?_; refine Lw.aw_cons ?_; refine Lw.ew_ty (n := "str") (hb.get (by decide)) Lw.bb_str ?_; refine Lw.aw_nil ?_; apply Exists.intro; apply Exists.intro; refine And.intro ?_ ?_; apply Lw.views_cons rfl; apply Lw.views_cons rfl; exact Lw.views_nil; refine And.intro ?_ ?_; exact Lw.on_isi (b := false) rfl rfl rfl; apply Exists.intro; refine And.intro ?_ ?_; rfl; refine And.intro ?_ ?_; intro c6; simp only [Bool.false_eq_true] at c6; intro c6; simp only at c6; refine Exists.intro () ?_; refine And.intro ?_ ?_; refine And.intro ?_ ?_; rfl; exact True.intro; exact True.intro; intro c5; simp only [Bool.true_eq_false] at c5; intro c2; simp only [D.isBl, Bool.false_eq_true] at c2)); (focus (refine Lw.ss_norm (Γ' := [_, _, _]) rfl ?_; refine Lw.ss_cons ?_; refine Lw.sw_if ?_; refine Lw.tw_cmp (Lw.opr_or L2.op_isN Lw.op_isBx) ?_; refine Lw.ew_var (i := 1) rfl (.inl rfl) rfl ?_; refine Lw.ew_non ?_; apply Exists.intro; apply Exists.intro; apply Exists.intro; refine And.intro ?_ ?_; rfl; refine And.intro ?_ ?_; rfl; refine And.intro ?_ ?_; exact Lw.o2_l Lw.o2_isN; refine And.intro ?_ ?_; intro c1; simp only [D.isNon, Bool.false_eq_true] at c1; intro c1; simp only [D.isNon] at c1; refine Lw.ss_nil ?_; refine Lw.ss_cons ?_; refine Lw.sw_if ?_; refine Lw.tw_pw ?_; refine Lw.ww_or ?_; refine Lw.tw_cmp (Lw.opr_or L2.op_isN Lw.op_isBx) ?_; refine Lw.ew_var (i := 1) rfl (.inl rfl) rfl ?_; refine Lw.ew_bl ?_; apply Exists.intro; apply Exists.intro; apply Exists.intro; refine And.intro ?_ ?_; rfl; refine And.intro ?_ ?_; rfl; refine And.intro ?_ ?_; exact Lw.o2_r Lw.o2_isB; refine And.intro ?_ ?_; intro c2; simp only [D.isBl] at c2; refine Lw.ww_or1 ?_; refine Lw.tw_cmp (Lw.opr_or L2.op_isN Lw.op_isBx) ?_; refine Lw.ew_var (i := 1) rfl (.inl rfl) rfl ?_; refine Lw.ew_bl ?_; apply Exists.intro; apply Exists.intro; apply Exists.intro; refine And.intro ?_ ?_; rfl; refine And.intro ?_ ?_; rfl; refine And.intro ?_ ?_; exact Lw.o2_r Lw.o2_isB; refine And.intro ?_ ?_; intro c3; simp only [D.isBl, Bool.false_eq_true] at c3; intro c3; simp only [D.isBl] at c3; refine Lw.ss_nil ?_; refine Lw.ss_cons ?_; refine Lw.sw_if ?_; refine Lw.tw_val ?_; refine Lw.ew_callB L2.call_isi rfl (hb.get (by decide)) Lw.bb_isinstance ?_; refine Lw.aw_cons ?_; refine Lw.ew_var (i := 1) rfl (.inl rfl) rfl ?_; refine Lw.aw_cons ?_; refine Lw.ew_ty (n := "int") (hb.get (by decide)) Lw.bb_int ?_; refine Lw.aw_nil ?_; apply Exists.intro; apply Exists.intro; refine And.intro ?_ ?_; apply Lw.views_cons rfl; apply Lw.views_cons rfl; exact Lw.views_nil; refine And.intro ?_ ?_; exact Lw.on_isi (b := false) rfl rfl rfl; apply Exists.intro; apply Exists.intro; refine And.intro ?_ ?_; rfl; refine And.intro ?_ ?_; rfl; refine And.intro ?_ ?_; intro c4; simp only [Bool.false_eq_true] at c4; intro c4; simp only at c4; refine Lw.ss_nil ?_; refine Lw.ss_cons ?_; refine Lw.sw_if ?_; refine Lw.tw_val ?_; refine Lw.ew_callB L2.call_isi rfl (hb.get (by decide)) Lw.bb_isinstance ?_; refine Lw.aw_cons ?_; refine Lw.ew_var (i := 1) rfl (.inl rfl) rfl ?_; refine Lw.aw_cons ?_; refine Lw.ew_ty (n := "str") (hb.get (by decide)) Lw.bb_str ?_; refine Lw.aw_nil ?_; apply Exists.intro; apply Exists.intro; refine And.intro ?_ ?_; apply Lw.views_cons rfl; apply Lw.views_cons rfl; exact Lw.views_nil; refine And.intro ?_ ?_; exact Lw.on_isi (b := true) rfl rfl rfl; apply Exists.intro; apply Exists.intro; refine And.intro ?_ ?_; rfl; refine And.intro ?_ ?_; rfl; refine And.intro ?_ ?_; intro c5; simp only at c5; refine Lw.ss_cons ?_; refine Lw.sw_ret ?_; refine Lw.ew_and ?_; refine Lw.ew_callB L2.call_isi rfl (hb.get (by decide)) Lw.bb_isinstance ?_; refine Lw.aw_cons ?_; refine Lw.ew_var (i := 0) rfl (.inl rfl) rfl ?_; refine Lw.aw_cons ?_; refine Lw.ew_ty (n := "str") (hb.get (by decide)) Lw.bb_str ?_; refine Lw.aw_nil ?_; apply Exists.intro; apply Exists.intro; refine And.intro ?_ ?_; apply Lw.views_cons rfl; apply Lw.views_cons rfl; exact Lw.views_nil; refine And.intro ?_ ?_; exact Lw.on_isi (b := false) rfl rfl rfl; apply Exists.intro; refine And.intro ?_ ?_; rfl; refine And.intro ?_ ?_; intro c6; simp only [Bool.false_eq_true] at c6; intro c6; simp only at c6; refine Exists.intro () ?_; refine And.intro ?_ ?_; refine And.intro ?_ ?_; rfl; exact True.intro; exact True.intro; intro c5; simp only [Bool.true_eq_false] at c5; intro c2; simp only [D.isBl, Bool.false_eq_true] at c2)); (focus (refine Lw.ss_norm (Γ' := [_, _, _]) rfl ?_; refine Lw.ss_cons ?_; refine Lw.sw_if ?_; refine Lw.tw_cmp (Lw.opr_or L2.op_isN Lw.op_isBx) ?_; refine Lw.ew_var (i := 1) rfl (.inl rfl) rfl ?_; refine Lw.ew_non ?_; apply Exists.intro; apply Exists.intro; apply Exists.intro; refine And.intro ?_ ?_; rfl; refine And.intro ?_ ?_; rfl; refine And.intro ?_ ?_; exact Lw.o2_l Lw.o2_isN; refine And.intro ?_ ?_; intro c1; simp only [D.isNon, Bool.false_eq_true] at c1; intro c1; simp only [D.isNon] at c1; refine Lw.ss_nil ?_; refine Lw.ss_cons ?_; refine Lw.sw_if ?_; refine Lw.tw_pw ?_; refine Lw.ww_or ?_; refine Lw.tw_cmp (Lw.opr_or L2.op_isN Lw.op_isBx) ?_; refine Lw.ew_var (i := 1) rfl (.inl rfl) rfl ?_; refine Lw.ew_bl ?_; apply Exists.intro; apply Exists.intro; apply Exists.intro; refine And.intro ?_ ?_; rfl; refine And.intro ?_ ?_; rfl; refine And.intro ?_ ?_; exact Lw.o2_r Lw.o2_isB; refine And.intro ?_ ?_; intro c2; simp only [D.isBl] at c2; refine Lw.ww_or1 ?_; refine Lw.tw_cmp (Lw.opr_or L2.op_isN Lw.op_isBx) ?_; refine Lw.ew_var (i := 1) rfl (.inl rfl) rfl ?_; refine Lw.ew_bl ?_; apply Exists.intro; apply Exists.intro; apply Exists.intro; refine And.intro ?_ ?_; rfl; refine And.intro ?_ ?_; rfl; refine And.intro ?_ ?_; exact Lw.o2_r Lw.o2_isB; refine And.intro ?_ ?_; intro c3; simp only [D.isBl, Bool.false_eq_true] at c3; intro c3; simp only [D.isBl] at c3; refine Lw.ss_nil ?_; refine Lw.ss_cons ?_; refine Lw.sw_if ?_; refine Lw.tw_val ?_; refine Lw.ew_callB L2.call_isi rfl (hb.get (by decide)) Lw.bb_isinstance ?_; refine Lw.aw_cons ?_; refine Lw.ew_var (i := 1) rfl (.inl rfl) rfl ?_; refine Lw.aw_cons ?_; refine Lw.ew_ty (n := "int") (hb.get (by decide)) Lw.bb_int ?_; refine Lw.aw_nil ?_; apply Exists.intro; apply Exists.intro; refine And.intro ?_ ?_; apply Lw.views_cons rfl; apply Lw.views_cons rfl; exact Lw.views_nil; refine And.intro ?_ ?_; exact Lw.on_isi (b := false) rfl rfl rfl; apply Exists.intro; apply Exists.intro; refine And.intro ?_ ?_; rfl; refine And.intro ?_ ?_; rfl; refine And.intro ?_ ?_; intro c4; simp only [Bool.false_eq_true] at c4; intro c4; simp only at c4; refine Lw.ss_nil ?_; refine Lw.ss_cons ?_; refine Lw.sw_if ?_; refine Lw.tw_val ?_; refine Lw.ew_callB L2.call_isi rfl (hb.get (by decide)) Lw.bb_isinstance ?_; refine Lw.aw_cons ?_; refine Lw.ew_var (i := 1) rfl (.inl rfl) rfl ?_; refine Lw.aw_cons ?_; refine Lw.ew_ty (n := "str") (hb.get (by decide)) Lw.bb_str ?_; refine Lw.aw_nil ?_; apply Exists.intro; apply Exists.intro; refine And.intro ?_ ?_; apply Lw.views_cons rfl; apply Lw.views_cons rfl; exact Lw.views_nil; refine And.intro ?_ ?_; exact Lw.on_isi (b := true) rfl rfl rfl; apply Exists.intro; apply Exists.intro; refine And.intro ?_ ?_; rfl; refine And.intro ?_ ?_; rfl; refine And.intro ?_ ?_; intro c5; simp only at c5; refine Lw.ss_cons ?_; refine Lw.sw_ret ?_; refine Lw.ew_and ?_; refine Lw.ew_callB L2.call_isi rfl (hb.get (by decide)) Lw.bb_isinstance ?_; refine Lw.aw_cons ?_; refine Lw.ew_var (i := 0) rfl (.inl rfl) rfl ?_; refine Lw.aw_cons ?_; refine Lw.ew_ty (n := "str") (hb.get (by decide)) Lw.bb_str ?_; refine Lw.aw_nil ?_; apply Exists.intro; apply Exists.intro; refine And.intro ?_ ?_; apply Lw.views_cons rfl; apply Lw.views_cons rfl; exact Lw.views_nil; refine And.intro ?_ ?_; exact Lw.on_isi (b := false) rfl rfl rfl; apply Exists.intro; refine And.intro ?_ ?_; rfl; refine And.intro ?_ ?_; intro c6; simp only [Bool.false_eq_true] at c6; intro c6; simp only at c6; refine Exists.intro () ?_; refine And.intro ?_ ?_; refine And.intro ?_ ?_; rfl; exact True.intro; exact True.intro; intro c5; simp only [Bool.true_eq_false] at c5; intro c2; simp only [D.isBl, Bool.false_eq_true] at c2)); (focus (refine Lw.ss_norm (Γ' := [_, _, _]) rfl ?_; refine Lw.ss_cons ?_; refine Lw.sw_if ?_; refine Lw.tw_cmp (Lw.opr_or L2.op_isN Lw.op_isBx) ?_; refine Lw.ew_var (i := 1) rfl (.inl rfl) rfl ?_; refine Lw.ew_non ?_; apply Exists.intro; apply Exists.intro; apply Exists.intro; refine And.intro ?_ ?_; rfl; refine And.intro ?_ ?_; rfl; refine And.intro ?_ ?_; exact Lw.o2_l Lw.o2_isN; refine And.intro ?_ ?_; intro c1; simp only [D.isNon, Bool.false_eq_true] at c1; intro c1; simp only [D.isNon] at c1; refine Lw.ss_nil ?_; refine Lw.ss_cons ?_; refine Lw.sw_if ?_; refine Lw.tw_pw ?_; refine Lw.ww_or ?_; refine Lw.tw_cmp (Lw.opr_or L2.op_isN Lw.op_isBx) ?_; refine Lw.ew_var (i := 1) rfl (.inl rfl) rfl ?_; refine Lw.ew_bl ?_; apply Exists.intro; apply Exists.intro; apply Exists.intro; refine And.intro ?_ ?_; rfl; refine And.intro ?_ ?_; rfl; refine And.intro ?_ ?_; exact Lw.o2_r Lw.o2_isB; refine And.intro ?_ ?_; intro c2; simp only [D.isBl] at c2; refine Lw.ww_or1 ?_; refine Lw.tw_cmp (Lw.opr_or L2.op_isN Lw.op_isBx) ?_; refine Lw.ew_var (i := 1) rfl (.inl rfl) rfl ?_; refine Lw.ew_bl ?_; apply Exists.intro; apply Exists.intro; apply Exists.intro; refine And.intro ?_ ?_; rfl; refine And.intro ?_ ?_; rfl; refine And.intro ?_ ?_; exact Lw.o2_r Lw.o2_isB; refine And.intro ?_ ?_; intro c3; simp only [D.isBl, Bool.false_eq_true] at c3; intro c3; simp only [D.isBl] at c3; refine Lw.ss_nil ?_; refine Lw.ss_cons ?_; refine Lw.sw_if ?_; refine Lw.tw_val ?_; refine Lw.ew_callB L2.call_isi rfl (hb.get (by decide)) Lw.bb_isinstance ?_; refine Lw.aw_cons ?_; refine Lw.ew_var (i := 1) rfl (.inl rfl) rfl ?_; refine Lw.aw_cons ?_; refine Lw.ew_ty (n := "int") (hb.get (by decide)) Lw.bb_int ?_; refine Lw.aw_nil ?_; apply Exists.intro; apply Exists.intro; refine And.intro ?_ ?_; apply Lw.views_cons rfl; apply Lw.views_cons rfl; exact Lw.views_nil; refine And.intro ?_ ?_; exact Lw.on_isi (b := false) rfl rfl rfl; apply Exists.intro; apply Exists.intro; refine And.intro ?_ ?_; rfl; refine And.intro ?_ ?_; rfl; refine And.intro ?_ ?_; intro c4; simp only [Bool.false_eq_true] at c4; intro c4; simp only at c4; refine Lw.ss_nil ?_; refine Lw.ss_cons ?_; refine Lw.sw_if ?_; refine Lw.tw_val ?_; refine Lw.ew_callB L2.call_isi rfl (hb.get (by decide)) Lw.bb_isinstance ?_; refine Lw.aw_cons ?_; refine Lw.ew_var (i := 1) rfl (.inl rfl) rfl ?_; refine Lw.aw_cons ?_; refine Lw.ew_ty (n := "str") (hb.get (by decide)) Lw.bb_str ?_; refine Lw.aw_nil ?_; apply Exists.intro; apply Exists.intro; refine And.intro ?_ ?_; apply Lw.views_cons rfl; apply Lw.views_cons rfl; exact Lw.views_nil; refine And.intro ?_ ?_; exact Lw.on_isi (b := true) rfl rfl rfl; apply Exists.intro; apply Exists.intro; refine And.intro ?_ ?_; rfl; refine And.intro ?_ ?_; rfl; refine And.intro ?_ ?_; intro c5; simp only at c5; refine Lw.ss_cons ?_; refine Lw.sw_ret ?_; refine Lw.ew_and ?_; refine Lw.ew_callB L2.call_isi rfl (hb.get (by decide)) Lw.bb_isinstance ?_; refine Lw.aw_cons ?_; refine Lw.ew_var (i := 0) rfl (.inl rfl) rfl ?_; refine Lw.aw_cons ?_; refine Lw.ew_ty (n := "str") (hb.get (by decide)) Lw.bb_str ?_; refine Lw.aw_nil ?_; apply Exists.intro; apply Exists.intro; refine And.intro ?_ ?_; apply Lw.views_cons rfl; apply Lw.views_cons rfl; exact Lw.views_nil; refine And.intro ?_ ?_; exact Lw.on_isi (b := true) rfl rfl rfl; apply Exists.intro; refine And.intro ?_ ?_; rfl; refine And.intro ?_ ?_; intro c6; simp only at c6; refine Lw.ew_one ?_; refine Lw.ew_cmp (Lw.opr_or L2.op_eq (L2.op_eqD hr.units)) ?_; refine Lw.ew_var (i := 0) rfl (.inl rfl) rfl ?_; refine Lw.ew_var (i := 1) rfl (.inl rfl) rfl ?_; apply Exists.intro; apply Exists.intro; apply Exists.intro; refine And.intro ?_ ?_; rfl; refine And.intro ?_ ?_; rfl; refine And.intro ?_ ?_; exact Lw.o2_l Lw.o2_eqS; refine Exists.intro () ?_; refine And.intro ?_ ?_; refine And.intro ?_ ?_; rfl; exact True.intro; exact True.intro; intro c6; simp only [Bool.true_eq_false] at c6; intro c5; simp only [Bool.true_eq_false] at c5; intro c2; simp only [D.isBl, Bool.false_eq_true] at c2)); (focus (refine Lw.ss_norm (Γ' := [_, _, _]) rfl ?_; refine Lw.ss_cons ?_; refine Lw.sw_if ?_; refine Lw.tw_cmp (Lw.opr_or L2.op_isN Lw.op_isBx) ?_; refine Lw.ew_var (i := 1) rfl (.inl rfl) rfl ?_; refine Lw.ew_non ?_; apply Exists.intro; apply Exists.intro; apply Exists.intro; refine And.intro ?_ ?_; rfl; refine And.intro ?_ ?_; rfl; refine And.intro ?_ ?_; exact Lw.o2_l Lw.o2_isN; refine And.intro ?_ ?_; intro c1; simp only [D.isNon, Bool.false_eq_true] at c1; intro c1; simp only [D.isNon] at c1; refine Lw.ss_nil ?_; refine Lw.ss_cons ?_; refine Lw.sw_if ?_; refine Lw.tw_pw ?_; refine Lw.ww_or ?_; refine Lw.tw_cmp (Lw.opr_or L2.op_isN Lw.op_isBx) ?_; refine Lw.ew_var (i := 1) rfl (.inl rfl) rfl ?_; refine Lw.ew_bl ?_; apply Exists.intro; apply Exists.intro; apply Exists.intro; refine And.intro ?_ ?_; rfl; refine And.intro ?_ ?_; rfl; refine And.intro ?_ ?_; exact Lw.o2_r Lw.o2_isB; refine And.intro ?_ ?_; intro c2; simp only [D.isBl] at c2; refine Lw.ww_or1 ?_; refine Lw.tw_cmp (Lw.opr_or L2.op_isN Lw.op_isBx) ?_; refine Lw.ew_var (i := 1) rfl (.inl rfl) rfl ?_; refine Lw.ew_bl ?_; apply Exists.intro; apply Exists.intro; apply Exists.intro; refine And.intro ?_ ?_; rfl; refine And.intro ?_ ?_; rfl; refine And.intro ?_ ?_; exact Lw.o2_r Lw.o2_isB; refine And.intro ?_ ?_; intro c3; simp only [D.isBl, Bool.false_eq_true] at c3; intro c3; simp only [D.isBl] at c3; refine Lw.ss_nil ?_; refine Lw.ss_cons ?_; refine Lw.sw_if ?_; refine Lw.tw_val ?_; refine Lw.ew_callB L2.call_isi rfl (hb.get (by decide)) Lw.bb_isinstance ?_; refine Lw.aw_cons ?_; refine Lw.ew_var (i := 1) rfl (.inl rfl) rfl ?_; refine Lw.aw_cons ?_; refine Lw.ew_ty (n := "int") (hb.get (by decide)) Lw.bb_int ?_; refine Lw.aw_nil ?_; apply Exists.intro; apply Exists.intro; refine And.intro ?_ ?_; apply Lw.views_cons rfl; apply Lw.views_cons rfl; exact Lw.views_nil; refine And.intro ?_ ?_; exact Lw.on_isi (b := false) rfl rfl rfl; apply Exists.intro; apply Exists.intro; refine And.intro ?_ ?_; rfl; refine And.intro ?_ ?_; rfl; refine And.intro ?_ ?_; intro c4; simp only [Bool.false_eq_true] at c4; intro c4; simp only at c4; refine Lw.ss_nil ?_; refine Lw.ss_cons ?_; refine Lw.sw_if ?_; refine Lw.tw_val ?_; refine Lw.ew_callB L2.call_isi rfl (hb.get (by decide)) Lw.bb_isinstance ?_; refine Lw.aw_cons ?_; refine Lw.ew_var (i := 1) rfl (.inl rfl) rfl ?_; refine Lw.aw_cons ?_; refine Lw.ew_ty (n := "str") (hb.get (by decide)) Lw.bb_str ?_; refine Lw.aw_nil ?_; apply Exists.intro; apply Exists.intro; refine And.intro ?_ ?_; apply Lw.views_cons rfl; apply Lw.views_cons rfl; exact Lw.views_nil; refine And.intro ?_ ?_; exact Lw.on_isi (b := true) rfl rfl rfl; apply Exists.intro; apply Exists.intro; refine And.intro ?_ ?_; rfl; refine And.intro ?_ ?_; rfl; refine And.intro ?_ ?_; intro c5; simp only at c5; refine Lw.ss_cons ?_; refine Lw.sw_ret ?_; refine Lw.ew_and ?_; refine Lw.ew_callB L2.call_isi rfl (hb.get (by decide)) Lw.bb_isinstance ?_; refine Lw.aw_cons ?_; refine Lw.ew_var (i := 0) rfl (.inl rfl) rfl ?_; refine Lw.aw_cons ?_; refine Lw.ew_ty (n := "str") (hb.get (by decide)) Lw.bb_str ?_; refine Lw.aw_nil ?_; apply Exists.intro; apply Exists.intro; refine And.intro ?_ ?_; apply Lw.views_cons rfl; apply Lw.views_cons rfl; exact Lw.views_nil; refine And.intro ?_ ?_; exact Lw.on_isi (b := false) rfl rfl rfl; apply Exists.intro; refine And.intro ?_ ?_; rfl; refine And.intro ?_ ?_; intro c6; simp only [Bool.false_eq_true] at c6; intro c6; simp only at c6; refine Exists.intro () ?_; refine And.intro ?_ ?_; refine And.intro ?_ ?_; rfl; exact True.intro; exact True.intro; intro c5; simp only [Bool.true_eq_false] at c5; intro c2; simp only [D.isBl, Bool.false_eq_true] at c2)); (focus (refine Lw.ss_norm (Γ' := [_, _, _]) rfl ?_; refine Lw.ss_cons ?_; refine Lw.sw_if ?_; refine Lw.tw_cmp (Lw.opr_or L2.op_isN Lw.op_isBx) ?_; refine Lw.ew_var (i := 1) rfl (.inl rfl) rfl ?_; refine Lw.ew_non ?_; apply Exists.intro; apply Exists.intro; apply Exists.intro; refine And.intro ?_ ?_; rfl; refine And.intro ?_ ?_; rfl; refine And.intro ?_ ?_; exact Lw.o2_l Lw.o2_isN; refine And.intro ?_ ?_; intro c1; simp only [D.isNon, Bool.false_eq_true] at c1; intro c1; simp only [D.isNon] at c1; refine Lw.ss_nil ?_; refine Lw.ss_cons ?_; refine Lw.sw_if ?_; refine Lw.tw_pw ?_; refine Lw.ww_or ?_; refine Lw.tw_cmp (Lw.opr_or L2.op_isN Lw.op_isBx) ?_; refine Lw.ew_var (i := 1) rfl (.inl rfl) rfl ?_; refine Lw.ew_bl ?_; apply Exists.intro; apply Exists.intro; apply Exists.intro; refine And.intro ?_ ?_; rfl; refine And.intro ?_ ?_; rfl; refine And.intro ?_ ?_; exact Lw.o2_r Lw.o2_isB; refine And.intro ?_ ?_; intro c2; simp only [D.isBl] at c2; refine Lw.ww_or1 ?_; refine Lw.tw_cmp (Lw.opr_or L2.op_isN Lw.op_isBx) ?_; refine Lw.ew_var (i := 1) rfl (.inl rfl) rfl ?_; refine Lw.ew_bl ?_; apply Exists.intro; apply Exists.intro; apply Exists.intro; refine And.intro ?_ ?_; rfl; refine And.intro ?_ ?_; rfl; refine And.intro ?_ ?_; exact Lw.o2_r Lw.o2_isB; refine And.intro ?_ ?_; intro c3; simp only [D.isBl, Bool.false_eq_true] at c3; intro c3; simp only [D.isBl] at c3; refine Lw.ss_nil ?_; refine Lw.ss_cons ?_; refine Lw.sw_if ?_; refine Lw.tw_val ?_; refine Lw.ew_callB L2.call_isi rfl (hb.get (by decide)) Lw.bb_isinstance ?_; refine Lw.aw_cons ?_; refine Lw.ew_var (i := 1) rfl (.inl rfl) rfl ?_; refine Lw.aw_cons ?_; refine Lw.ew_ty (n := "int") (hb.get (by decide)) Lw.bb_int ?_; refine Lw.aw_nil ?_; apply Exists.intro; apply Exists.intro; refine And.intro ?_ ?_; apply Lw.views_cons rfl; apply Lw.views_cons rfl; exact Lw.views_nil; refine And.intro ?_ ?_; exact Lw.on_isi (b := false) rfl rfl rfl; apply Exists.intro; apply Exists.intro; refine And.intro ?_ ?_; rfl; refine And.intro ?_ ?_; rfl; refine And.intro ?_ ?_; intro c4; simp only [Bool.false_eq_true] at c4; intro c4; simp only at c4; refine Lw.ss_nil ?_; refine Lw.ss_cons ?_; refine Lw.sw_if ?_; refine Lw.tw_val ?_; refine Lw.ew_callB L2.call_isi rfl (hb.get (by decide)) Lw.bb_isinstance ?_; refine Lw.aw_cons ?_; refine Lw.ew_var (i := 1) rfl (.inl rfl) rfl ?_; refine Lw.aw_cons ?_; refine Lw.ew_ty (n := "str") (hb.get (by decide)) Lw.bb_str ?_; refine Lw.aw_nil ?_; apply Exists.intro; apply Exists.intro; refine And.intro ?_ ?_; apply Lw.views_cons rfl; apply Lw.views_cons rfl; exact Lw.views_nil; refine And.intro ?_ ?_; exact Lw.on_isi (b := true) rfl rfl rfl; apply Exists.intro; apply Exists.intro; refine And.intro ?_ ?_; rfl; refine And.intro ?_ ?_; rfl; refine And.intro ?_ ?_; intro c5; simp only at c5; refine Lw.ss_cons ?_; refine Lw.sw_ret ?_; refine Lw.ew_and ?_; refine Lw.ew_callB L2.call_isi rfl (hb.get (by decide)) Lw.bb_isinstance ?_; refine Lw.aw_cons ?_; refine Lw.ew_var (i := 0) rfl (.inl rfl) rfl ?_; refine Lw.aw_cons ?_; refine Lw.ew_ty (n := "str") (hb.get (by decide)) Lw.bb_str ?_; refine Lw.aw_nil ?_; apply Exists.intro; apply Exists.intro; refine And.intro ?_ ?_; apply Lw.views_cons rfl; apply Lw.views_cons rfl; exact Lw.views_nil; refine And.intro ?_ ?_; exact Lw.on_isi (b := false) rfl rfl rfl; apply Exists.intro; refine And.intro ?_ ?_; rfl; refine And.intro ?_ ?_; intro c6; simp only [Bool.false_eq_true] at c6; intro c6; simp only at c6; refine Exists.intro () ?_; refine And.intro ?_ ?_; refine And.intro ?_ ?_; rfl; exact True.intro; exact True.intro; intro c5; simp only [Bool.true_eq_false] at c5; intro c2; simp only [D.isBl, Bool.false_eq_true] at c2)))
    all_goals first | (simp [sameD]; done) | trace_state
  | lst ds =>
    have hd' : ds.length ≤ 100000 ∧ okNs n ds = true := by simpa [okN] using hd
    cases g with
    | lst gs =>
      have hk' : gs.length ≤ 100000 ∧ okNs n gs = true := by simpa [okN] using hk
      (focus (refine Lw.ss_norm (Γ' := [_, _, _]) rfl ?_; refine Lw.ss_cons ?_; refine Lw.sw_if ?_; refine Lw.tw_cmp (Lw.opr_or L2.op_isN Lw.op_isBx) ?_; refine Lw.ew_var (i := 1) rfl (.inl rfl) rfl ?_; refine Lw.ew_non ?_; apply Exists.intro; apply Exists.intro; apply Exists.intro; refine And.intro ?_ ?_; rfl; refine And.intro ?_ ?_; rfl; refine And.intro ?_ ?_; exact Lw.o2_l Lw.o2_isN; refine And.intro ?_ ?_; intro c1; simp only [D.isNon, Bool.false_eq_true] at c1; intro c1; simp only [D.isNon] at c1; refine Lw.ss_nil ?_; refine Lw.ss_cons ?_; refine Lw.sw_if ?_; refine Lw.tw_pw ?_; refine Lw.ww_or ?_; refine Lw.tw_cmp (Lw.opr_or L2.op_isN Lw.op_isBx) ?_; refine Lw.ew_var (i := 1) rfl (.inl rfl) rfl ?_; refine Lw.ew_bl ?_; apply Exists.intro; apply Exists.intro; apply Exists.intro; refine And.intro ?_ ?_; rfl; refine And.intro ?_ ?_; rfl; refine And.intro ?_ ?_; exact Lw.o2_r Lw.o2_isB; refine And.intro ?_ ?_; intro c2; simp only [D.isBl] at c2; refine Lw.ww_or1 ?_; refine Lw.tw_cmp (Lw.opr_or L2.op_isN Lw.op_isBx) ?_; refine Lw.ew_var (i := 1) rfl (.inl rfl) rfl ?_; refine Lw.ew_bl ?_; apply Exists.intro; apply Exists.intro; apply Exists.intro; refine And.intro ?_ ?_; rfl; refine And.intro ?_ ?_; rfl; refine And.intro ?_ ?_; exact Lw.o2_r Lw.o2_isB; refine And.intro ?_ ?_; intro c3; simp only [D.isBl, Bool.false_eq_true] at c3; intro c3; simp only [D.isBl] at c3; refine Lw.ss_nil ?_; refine Lw.ss_cons ?_; refine Lw.sw_if ?_; refine Lw.tw_val ?_; refine Lw.ew_callB L2.call_isi rfl (hb.get (by decide)) Lw.bb_isinstance ?_; refine Lw.aw_cons ?_; refine Lw.ew_var (i := 1) rfl (.inl rfl) rfl ?_; refine Lw.aw_cons ?_; refine Lw.ew_ty (n := "int") (hb.get (by decide)) Lw.bb_int ?_; refine Lw.aw_nil ?_; apply Exists.intro; apply Exists.intro; refine And.intro ?_ ?_; apply Lw.views_cons rfl; apply Lw.views_cons rfl; exact Lw.views_nil; refine And.intro ?_ ?_; exact Lw.on_isi (b := false) rfl rfl rfl; apply Exists.intro; apply Exists.intro; refine And.intro ?_ ?_; rfl; refine And.intro ?_ ?_; rfl; refine And.intro ?_ ?_; intro c4; simp only [Bool.false_eq_true] at c4; intro c4; simp only at c4; refine Lw.ss_nil ?_; refine Lw.ss_cons ?_; refine Lw.sw_if ?_; refine Lw.tw_val ?_; refine Lw.ew_callB L2.call_isi rfl (hb.get (by decide)) Lw.bb_isinstance ?_; refine Lw.aw_cons ?_; refine Lw.ew_var (i := 1) rfl (.inl rfl) rfl ?_; refine Lw.aw_cons ?_; refine Lw.ew_ty (n := "str") (hb.get (by decide)) Lw.bb_str ?_; refine Lw.aw_nil ?_; apply Exists.intro; apply Exists.intro; refine And.intro ?_ ?_; apply Lw.views_cons rfl; apply Lw.views_cons rfl; exact Lw.views_nil; refine And.intro ?_ ?_; exact Lw.on_isi (b := false) rfl rfl rfl; apply Exists.intro; apply Exists.intro; refine And.intro ?_ ?_; rfl; refine And.intro ?_ ?_; rfl; refine And.intro ?_ ?_; intro c5; simp only [Bool.false_eq_true] at c5; intro c5; simp only at c5; refine Lw.ss_nil ?_; refine Lw.ss_cons ?_; refine Lw.sw_if ?_; refine Lw.tw_pw ?_; refine Lw.ww_and ?_; refine Lw.tw_val ?_; refine Lw.ew_callB L2.call_isi rfl (hb.get (by decide)) Lw.bb_isinstance ?_; refine Lw.aw_cons ?_; refine Lw.ew_var (i := 1) rfl (.inl rfl) rfl ?_; refine Lw.aw_cons ?_; refine Lw.ew_ty (n := "tuple") (hb.get (by decide)) Lw.bb_tuple ?_; refine Lw.aw_nil ?_; apply Exists.intro; apply Exists.intro; refine And.intro ?_ ?_; apply Lw.views_cons rfl; apply Lw.views_cons rfl; exact Lw.views_nil; refine And.intro ?_ ?_; exact Lw.on_isi (b := false) rfl rfl rfl; apply Exists.intro; apply Exists.intro; refine And.intro ?_ ?_; rfl; refine And.intro ?_ ?_; rfl; refine And.intro ?_ ?_; intro c6; simp only [Bool.false_eq_true] at c6; intro c6; simp only at c6; refine And.intro ?_ ?_; intro c7; simp only [Bool.false_eq_true] at c7; intro c7; simp only at c7; refine Lw.ss_nil ?_; refine Lw.ss_cons ?_; refine Lw.sw_if ?_; refine Lw.tw_pw ?_; refine Lw.ww_and ?_; refine Lw.tw_val ?_; refine Lw.ew_callB L2.call_isi rfl (hb.get (by decide)) Lw.bb_isinstance ?_; refine Lw.aw_cons ?_; refine Lw.ew_var (i := 1) rfl (.inl rfl) rfl ?_; refine Lw.aw_cons ?_; refine Lw.ew_ty (n := "list") (hb.get (by decide)) Lw.bb_list ?_; refine Lw.aw_nil ?_; apply Exists.intro; apply Exists.intro; refine And.intro ?_ ?_; apply Lw.views_cons rfl; apply Lw.views_cons rfl; exact Lw.views_nil; refine And.intro ?_ ?_; exact Lw.on_isi (b := true) rfl rfl rfl; apply Exists.intro; apply Exists.intro; refine And.intro ?_ ?_; rfl; refine And.intro ?_ ?_; rfl; refine And.intro ?_ ?_; intro c8; simp only at c8; refine Lw.ww_and1 ?_; refine Lw.tw_not ?_; refine Lw.tw_val ?_; refine Lw.ew_callB L2.call_isi rfl (hb.get (by decide)) Lw.bb_isinstance ?_; refine Lw.aw_cons ?_; refine Lw.ew_var (i := 0) rfl (.inl rfl) rfl ?_; refine Lw.aw_cons ?_; refine Lw.ew_ty (n := "list") (hb.get (by decide)) Lw.bb_list ?_; refine Lw.aw_nil ?_; apply Exists.intro; apply Exists.intro; refine And.intro ?_ ?_; apply Lw.views_cons rfl; apply Lw.views_cons rfl; exact Lw.views_nil; refine And.intro ?_ ?_; exact Lw.on_isi (b := true) rfl rfl rfl; apply Exists.intro; apply Exists.intro; refine And.intro ?_ ?_; rfl; refine And.intro ?_ ?_; rfl; refine And.intro ?_ ?_; intro c9; simp only [Bool.not_true, Bool.false_eq_true] at c9; intro c9; simp only [Bool.not_true] at c9; refine Lw.ss_nil ?_; refine Lw.ss_cons ?_; refine Lw.sw_if ?_; refine Lw.tw_cmp (Lw.opr_or L2.op_ne (L2.op_neD hr.units)) ?_; refine Lw.ew_callB L2.call_len_seq rfl (hb.get (by decide)) Lw.bb_len ?_; refine Lw.aw_cons ?_; refine Lw.ew_var (i := 0) rfl (.inl rfl) rfl ?_; refine Lw.aw_nil ?_; apply Exists.intro; apply Exists.intro; refine And.intro ?_ ?_; apply Lw.views_cons rfl; exact Lw.views_nil; refine And.intro ?_ ?_; exact Lw.on_lenL; refine Lw.ew_callB L2.call_len_seq rfl (hb.get (by decide)) Lw.bb_len ?_; refine Lw.aw_cons ?_; refine Lw.ew_var (i := 1) rfl (.inl rfl) rfl ?_; refine Lw.aw_nil ?_; apply Exists.intro; apply Exists.intro; refine And.intro ?_ ?_; apply Lw.views_cons rfl; exact Lw.views_nil; refine And.intro ?_ ?_; exact Lw.on_lenL; apply Exists.intro; apply Exists.intro; apply Exists.intro; refine And.intro ?_ ?_; rfl; refine And.intro ?_ ?_; rfl; refine And.intro ?_ ?_; exact Lw.o2_l Lw.o2_neI; refine And.intro ?_ ?_; intro c10; simp only [ne_eq, decide_eq_true_eq] at c10; refine Lw.ss_cons ?_; refine Lw.sw_ret ?_; refine Lw.ew_bl ?_; refine Exists.intro () ?_; refine And.intro ?_ ?_; refine And.intro ?_ ?_; (show _; rotate_left); exact True.intro; exact True.intro; intro c10; simp only [ne_eq, decide_eq_false_iff_not, Decidable.not_not] at c10; refine Lw.ss_nil ?_; refine Lw.ss_cons ?_; refine Lw.sw_forF po rfl ?_; refine Lw.iw_rng1 (hb.get (by decide)) ?_; refine Lw.aw_cons ?_; refine Lw.ew_callB L2.call_len_seq rfl (hb.get (by decide)) Lw.bb_len ?_; refine Lw.aw_cons ?_; refine Lw.ew_var (i := 1) rfl (.inl rfl) rfl ?_; refine Lw.aw_nil ?_; apply Exists.intro; apply Exists.intro; refine And.intro ?_ ?_; apply Lw.views_cons rfl; exact Lw.views_nil; refine And.intro ?_ ?_; exact Lw.on_lenL; refine Lw.aw_nil ?_; apply Exists.intro; refine And.intro ?_ ?_; apply Lw.views_cons rfl; exact Lw.views_nil; refine And.intro ?_ ?_; refine And.intro ?_ ?_; omega; omega; (show _; rotate_left); intro c8; simp only [Bool.true_eq_false] at c8; intro c2; simp only [D.isBl, Bool.false_eq_true] at c2; (show _; rotate_left); (show _; rotate_left)))
      · congr 1; unfold sameD; symm
        cases e : sameDs gs ds with
        | false => rfl
        | true => have := sameDs_len e; omega
      · have hlen2 : gs.length = ds.length := by omega
        refine Lw.for_intro (fun k Γ => (∀ j, j < k → sameD (gs.getD j .non) (ds.getD j .non) = true) ∧ Γ = [Sl.bo (D.lst gs), Sl.bo (D.lst ds), .un]) ?_ ?_ ?_
        · (focus (apply Exists.intro; refine And.intro ?_ ?_; refine And.intro ?_ ?_; intro j; intro c11; omega; rfl; refine Lw.fgt_eq rfl ?_; refine Lw.fgt_eq rfl ?_; refine Lw.fgt_un ?_; exact Lw.fgt_nil))
        · rintro k Γ' hk2 ⟨hall, rfl⟩
          have hk3 : k < ds.length := by omega
          (focus (refine Lw.gw_name (i := 2) hN rfl (.inl rfl) ?_; refine Lw.ss_norm (Γ' := [_, _, _]) rfl ?_; refine Lw.ss_cons ?_; refine Lw.sw_if ?_; refine Lw.tw_not ?_; refine Lw.tw_val ?_; refine Lw.ew_call d2 hr tk ?_; refine Lw.aw_cons ?_; refine Lw.ew_ix L2.ix_seq ?_; refine Lw.ew_var (i := 0) rfl (.inl rfl) rfl ?_; refine Lw.ew_var (i := 2) rfl (.inl rfl) rfl ?_; apply Exists.intro; apply Exists.intro; apply Exists.intro; refine And.intro ?_ ?_; rfl; refine And.intro ?_ ?_; rfl; refine And.intro ?_ ?_; apply Lw.o2_ixL; apply Lw.atI_get; omega; omega; refine Lw.aw_cons ?_; refine Lw.ew_ix L2.ix_seq ?_; refine Lw.ew_var (i := 1) rfl (.inl rfl) rfl ?_; refine Lw.ew_var (i := 2) rfl (.inl rfl) rfl ?_; apply Exists.intro; apply Exists.intro; apply Exists.intro; refine And.intro ?_ ?_; rfl; refine And.intro ?_ ?_; rfl; refine And.intro ?_ ?_; apply Lw.o2_ixL; apply Lw.atI_get; omega; omega; refine Lw.aw_nil ?_; apply Lw.callPost_2; refine And.intro ?_ ?_; refine And.intro ?_ ?_; rfl; refine And.intro ?_ ?_; rfl; exact True.intro; refine And.intro ?_ ?_; assumption; refine And.intro ?_ ?_; refine And.intro ?_ ?_; (show _; rotate_left); (show _; rotate_left); rintro ⟨⟩ -; refine And.intro ?_ ?_; rfl; refine Lw.outP_eq rfl ?_; apply Exists.intro; apply Exists.intro; refine And.intro ?_ ?_; rfl; refine And.intro ?_ ?_; rfl; refine And.intro ?_ ?_; intro c11; simp only [Bool.not_eq_true'] at c11; refine Lw.ss_norm (Γ' := [_, _, _]) rfl ?_; refine Lw.ss_cons ?_; refine Lw.sw_ret ?_; refine Lw.ew_bl ?_; refine Exists.intro () ?_; refine And.intro ?_ ?_; refine And.intro ?_ ?_; (show _; rotate_left); exact True.intro; exact True.intro; intro c11; simp only [Bool.not_eq_false'] at c11; refine Lw.ss_norm (Γ' := [_, _, _]) rfl ?_; refine Lw.ss_nil ?_; refine Lw.ss_nil ?_; apply Exists.intro; refine And.intro ?_ ?_; refine And.intro ?_ ?_; intro j; intro c12; (show _; rotate_left); rfl; refine Lw.fgt_eq rfl ?_; refine Lw.fgt_eq rfl ?_; refine Lw.fgt_un ?_; exact Lw.fgt_nil; (show _; rotate_left); (show _; rotate_left); (show _; rotate_left); (show _; rotate_left)))
          all_goals try simp only [Int.toNat_natCast] at *
          all_goals first
          | exact okNs_get hk'.2 (by omega)
          | exact okNs_get hd'.2 (by omega)
          | (rcases Nat.lt_or_eq_of_le (Nat.le_of_lt_succ c12) with h | h
             · exact hall j h
             · subst h; exact c11)
          | (congr 1; unfold sameD; symm; exact sameDs_no k hk3 hlen2 c11)
        · rintro Γ' ⟨hall, rfl⟩
          simp only [Int.toNat_natCast] at hall
          (focus (refine Lw.ss_cons ?_; refine Lw.sw_ret ?_; refine Lw.ew_bl ?_; refine Exists.intro () ?_; refine And.intro ?_ ?_; refine And.intro ?_ ?_; (show _; rotate_left); exact True.intro; exact True.intro; (show _; rotate_left)))
          all_goals (congr 1; unfold sameD; exact (sameDs_of hlen2 hall).symm)
    | obj => simp [okN] at hk
    | scr => simp [okN] at hk
    | ty => simp [okN] at hk
    | cls => simp [okN] at hk
    | _ => (focus (refine Lw.ss_norm (Γ' := [_, _, _]) rfl ?_; refine Lw.ss_cons ?_; refine Lw.sw_if ?_; refine Lw.tw_cmp (Lw.opr_or L2.op_isN Lw.op_isBx) ?_; refine Lw.ew_var (i := 1) rfl (.inl rfl) rfl ?_; refine Lw.ew_non ?_; apply Exists.intro; apply Exists.intro; apply Exists.intro; refine And.intro ?_ ?_; rfl; refine And.intro ?_ ?_; rfl; refine And.intro ?_ ?_; exact Lw.o2_l Lw.o2_isN; refine And.intro ?_ ?_; intro c1; simp only [D.isNon, Bool.false_eq_true] at c1; intro c1; simp only [D.isNon] at c1; refine Lw.ss_nil ?_; refine Lw.ss_cons ?_; refine Lw.sw_if ?_; refine Lw.tw_pw ?_; refine Lw.ww_or ?_; refine Lw.tw_cmp (Lw.opr_or L2.op_isN Lw.op_isBx) ?_; refine Lw.ew_var (i := 1) rfl (.inl rfl) rfl ?_; refine Lw.ew_bl ?_; apply Exists.intro; apply Exists.intro; apply Exists.intro; refine And.intro ?_ ?_; rfl; refine And.intro ?_ ?_; rfl; refine And.intro ?_ ?_; exact Lw.o2_r Lw.o2_isB; refine And.intro ?_ ?_; intro c2; simp only [D.isBl] at c2; refine Lw.ww_or1 ?_; refine Lw.tw_cmp (Lw.opr_or L2.op_isN Lw.op_isBx) ?_; refine Lw.ew_var (i := 1) rfl (.inl rfl) rfl ?_; refine Lw.ew_bl ?_; apply Exists.intro; apply Exists.intro; apply Exists.intro; refine And.intro ?_ ?_; rfl; refine And.intro ?_ ?_; rfl; refine And.intro ?_ ?_; exact Lw.o2_r Lw.o2_isB; refine And.intro ?_ ?_; intro c3; simp only [D.isBl, Bool.false_eq_true] at c3; intro c3; simp only [D.isBl] at c3; refine Lw.ss_nil ?_; refine Lw.ss_cons ?_; refine Lw.sw_if ?_; refine Lw.tw_val ?_; refine Lw.ew_callB L2.call_isi rfl (hb.get (by decide)) Lw.bb_isinstance ?_; refine Lw.aw_cons ?_; refine Lw.ew_var (i := 1) rfl (.inl rfl) rfl ?_; refine Lw.aw_cons ?_; refine Lw.ew_ty (n := "int") (hb.get (by decide)) Lw.bb_int ?_; refine Lw.aw_nil ?_; apply Exists.intro; apply Exists.intro; refine And.intro ?_ ?_; apply Lw.views_cons rfl; apply Lw.views_cons rfl; exact Lw.views_nil; refine And.intro ?_ ?_; exact Lw.on_isi (b := false) rfl rfl rfl; apply Exists.intro; apply Exists.intro; refine And.intro ?_ ?_; rfl; refine And.intro ?_ ?_; rfl; refine And.intro ?_ ?_; intro c4; simp only [Bool.false_eq_true] at c4; intro c4; simp only at c4; refine Lw.ss_nil ?_; refine Lw.ss_cons ?_; refine Lw.sw_if ?_; refine Lw.tw_val ?_; refine Lw.ew_callB L2.call_isi rfl (hb.get (by decide)) Lw.bb_isinstance ?_; refine Lw.aw_cons ?_; refine Lw.ew_var (i := 1) rfl (.inl rfl) rfl ?_; refine Lw.aw_cons ?_; refine Lw.ew_ty (n := "str") (hb.get (by decide)) Lw.bb_str ?_; refine Lw.aw_nil ?_; apply Exists.intro; apply Exists.intro; refine And.intro ?_ ?_; apply Lw.views_cons rfl; apply Lw.views_cons rfl; exact Lw.views_nil; refine And.intro ?_ ?_; exact Lw.on_isi (b := false) rfl rfl rfl; apply Exists.intro; apply Exists.intro; refine And.intro ?_ ?_; rfl; refine And.intro ?_ ?_; rfl; refine And.intro ?_ ?_; intro c5; simp only [Bool.false_eq_true] at c5; intro c5; simp only at c5; refine Lw.ss_nil ?_; refine Lw.ss_cons ?_; refine Lw.sw_if ?_; refine Lw.tw_pw ?_; refine Lw.ww_and ?_; refine Lw.tw_val ?_; refine Lw.ew_callB L2.call_isi rfl (hb.get (by decide)) Lw.bb_isinstance ?_; refine Lw.aw_cons ?_; refine Lw.ew_var (i := 1) rfl (.inl rfl) rfl ?_; refine Lw.aw_cons ?_; refine Lw.ew_ty (n := "tuple") (hb.get (by decide)) Lw.bb_tuple ?_; refine Lw.aw_nil ?_; apply Exists.intro; apply Exists.intro; refine And.intro ?_ ?_; apply Lw.views_cons rfl; apply Lw.views_cons rfl; exact Lw.views_nil; refine And.intro ?_ ?_; exact Lw.on_isi (b := false) rfl rfl rfl; apply Exists.intro; apply Exists.intro; refine And.intro ?_ ?_; rfl; refine And.intro ?_ ?_; rfl; refine And.intro ?_ ?_; intro c6; simp only [Bool.false_eq_true] at c6; intro c6; simp only at c6; refine And.intro ?_ ?_; intro c7; simp only [Bool.false_eq_true] at c7; intro c7; simp only at c7; refine Lw.ss_nil ?_; refine Lw.ss_cons ?_; refine Lw.sw_if ?_; refine Lw.tw_pw ?_; refine Lw.ww_and ?_; refine Lw.tw_val ?_; refine Lw.ew_callB L2.call_isi rfl (hb.get (by decide)) Lw.bb_isinstance ?_; refine Lw.aw_cons ?_; refine Lw.ew_var (i := 1) rfl (.inl rfl) rfl ?_; refine Lw.aw_cons ?_; refine Lw.ew_ty (n := "list") (hb.get (by decide)) Lw.bb_list ?_; refine Lw.aw_nil ?_; apply Exists.intro; apply Exists.intro; refine And.intro ?_ ?_; apply Lw.views_cons rfl; apply Lw.views_cons rfl; exact Lw.views_nil; refine And.intro ?_ ?_; exact Lw.on_isi (b := true) rfl rfl rfl; apply Exists.intro; apply Exists.intro; refine And.intro ?_ ?_; rfl; refine And.intro ?_ ?_; rfl; refine And.intro ?_ ?_; intro c8; simp only at c8; refine Lw.ww_and1 ?_; refine Lw.tw_not ?_; refine Lw.tw_val ?_; refine Lw.ew_callB L2.call_isi rfl (hb.get (by decide)) Lw.bb_isinstance ?_; refine Lw.aw_cons ?_; refine Lw.ew_var (i := 0) rfl (.inl rfl) rfl ?_; refine Lw.aw_cons ?_; refine Lw.ew_ty (n := "list") (hb.get (by decide)) Lw.bb_list ?_; refine Lw.aw_nil ?_; apply Exists.intro; apply Exists.intro; refine And.intro ?_ ?_; apply Lw.views_cons rfl; apply Lw.views_cons rfl; exact Lw.views_nil; refine And.intro ?_ ?_; exact Lw.on_isi (b := false) rfl rfl rfl; apply Exists.intro; apply Exists.intro; refine And.intro ?_ ?_; rfl; refine And.intro ?_ ?_; rfl; refine And.intro ?_ ?_; intro c9; simp only [Bool.not_false] at c9; refine Lw.ss_cons ?_; refine Lw.sw_ret ?_; refine Lw.ew_bl ?_; refine Exists.intro () ?_; refine And.intro ?_ ?_; refine And.intro ?_ ?_; rfl; exact True.intro; exact True.intro; intro c9; simp only [Bool.not_false, Bool.true_eq_false] at c9; intro c8; simp only [Bool.true_eq_false] at c8; intro c2; simp only [D.isBl, Bool.false_eq_true] at c2)) <;> simp [sameD]
  | tup ds =>
    have hd' : ds.length ≤ 100000 ∧ okNs n ds = true := by simpa [okN] using hd
    cases g with
    | tup gs =>
      have hk' : gs.length ≤ 100000 ∧ okNs n gs = true := by simpa [okN] using hk
      (focus (refine Lw.ss_norm (Γ' := [_, _, _]) rfl ?_; refine Lw.ss_cons ?_; refine Lw.sw_if ?_; refine Lw.tw_cmp (Lw.opr_or L2.op_isN Lw.op_isBx) ?_; refine Lw.ew_var (i := 1) rfl (.inl rfl) rfl ?_; refine Lw.ew_non ?_; apply Exists.intro; apply Exists.intro; apply Exists.intro; refine And.intro ?_ ?_; rfl; refine And.intro ?_ ?_; rfl; refine And.intro ?_ ?_; exact Lw.o2_l Lw.o2_isN; refine And.intro ?_ ?_; intro c1; simp only [D.isNon, Bool.false_eq_true] at c1; intro c1; simp only [D.isNon] at c1; refine Lw.ss_nil ?_; refine Lw.ss_cons ?_; refine Lw.sw_if ?_; refine Lw.tw_pw ?_; refine Lw.ww_or ?_; refine Lw.tw_cmp (Lw.opr_or L2.op_isN Lw.op_isBx) ?_; refine Lw.ew_var (i := 1) rfl (.inl rfl) rfl ?_; refine Lw.ew_bl ?_; apply Exists.intro; apply Exists.intro; apply Exists.intro; refine And.intro ?_ ?_; rfl; refine And.intro ?_ ?_; rfl; refine And.intro ?_ ?_; exact Lw.o2_r Lw.o2_isB; refine And.intro ?_ ?_; intro c2; simp only [D.isBl] at c2; refine Lw.ww_or1 ?_; refine Lw.tw_cmp (Lw.opr_or L2.op_isN Lw.op_isBx) ?_; refine Lw.ew_var (i := 1) rfl (.inl rfl) rfl ?_; refine Lw.ew_bl ?_; apply Exists.intro; apply Exists.intro; apply Exists.intro; refine And.intro ?_ ?_; rfl; refine And.intro ?_ ?_; rfl; refine And.intro ?_ ?_; exact Lw.o2_r Lw.o2_isB; refine And.intro ?_ ?_; intro c3; simp only [D.isBl, Bool.false_eq_true] at c3; intro c3; simp only [D.isBl] at c3; refine Lw.ss_nil ?_; refine Lw.ss_cons ?_; refine Lw.sw_if ?_; refine Lw.tw_val ?_; refine Lw.ew_callB L2.call_isi rfl (hb.get (by decide)) Lw.bb_isinstance ?_; refine Lw.aw_cons ?_; refine Lw.ew_var (i := 1) rfl (.inl rfl) rfl ?_; refine Lw.aw_cons ?_; refine Lw.ew_ty (n := "int") (hb.get (by decide)) Lw.bb_int ?_; refine Lw.aw_nil ?_; apply Exists.intro; apply Exists.intro; refine And.intro ?_ ?_; apply Lw.views_cons rfl; apply Lw.views_cons rfl; exact Lw.views_nil; refine And.intro ?_ ?_; exact Lw.on_isi (b := false) rfl rfl rfl; apply Exists.intro; apply Exists.intro; refine And.intro ?_ ?_; rfl; refine And.intro ?_ ?_; rfl; refine And.intro ?_ ?_; intro c4; simp only [Bool.false_eq_true] at c4; intro c4; simp only at c4; refine Lw.ss_nil ?_; refine Lw.ss_cons ?_; refine Lw.sw_if ?_; refine Lw.tw_val ?_; refine Lw.ew_callB L2.call_isi rfl (hb.get (by decide)) Lw.bb_isinstance ?_; refine Lw.aw_cons ?_; refine Lw.ew_var (i := 1) rfl (.inl rfl) rfl ?_; refine Lw.aw_cons ?_; refine Lw.ew_ty (n := "str") (hb.get (by decide)) Lw.bb_str ?_; refine Lw.aw_nil ?_; apply Exists.intro; apply Exists.intro; refine And.intro ?_ ?_; apply Lw.views_cons rfl; apply Lw.views_cons rfl; exact Lw.views_nil; refine And.intro ?_ ?_; exact Lw.on_isi (b := false) rfl rfl rfl; apply Exists.intro; apply Exists.intro; refine And.intro ?_ ?_; rfl; refine And.intro ?_ ?_; rfl; refine And.intro ?_ ?_; intro c5; simp only [Bool.false_eq_true] at c5; intro c5; simp only at c5; refine Lw.ss_nil ?_; refine Lw.ss_cons ?_; refine Lw.sw_if ?_; refine Lw.tw_pw ?_; refine Lw.ww_and ?_; refine Lw.tw_val ?_; refine Lw.ew_callB L2.call_isi rfl (hb.get (by decide)) Lw.bb_isinstance ?_; refine Lw.aw_cons ?_; refine Lw.ew_var (i := 1) rfl (.inl rfl) rfl ?_; refine Lw.aw_cons ?_; refine Lw.ew_ty (n := "tuple") (hb.get (by decide)) Lw.bb_tuple ?_; refine Lw.aw_nil ?_; apply Exists.intro; apply Exists.intro; refine And.intro ?_ ?_; apply Lw.views_cons rfl; apply Lw.views_cons rfl; exact Lw.views_nil; refine And.intro ?_ ?_; exact Lw.on_isi (b := true) rfl rfl rfl; apply Exists.intro; apply Exists.intro; refine And.intro ?_ ?_; rfl; refine And.intro ?_ ?_; rfl; refine And.intro ?_ ?_; intro c6; simp only at c6; refine Lw.ww_and1 ?_; refine Lw.tw_not ?_; refine Lw.tw_val ?_; refine Lw.ew_callB L2.call_isi rfl (hb.get (by decide)) Lw.bb_isinstance ?_; refine Lw.aw_cons ?_; refine Lw.ew_var (i := 0) rfl (.inl rfl) rfl ?_; refine Lw.aw_cons ?_; refine Lw.ew_ty (n := "tuple") (hb.get (by decide)) Lw.bb_tuple ?_; refine Lw.aw_nil ?_; apply Exists.intro; apply Exists.intro; refine And.intro ?_ ?_; apply Lw.views_cons rfl; apply Lw.views_cons rfl; exact Lw.views_nil; refine And.intro ?_ ?_; exact Lw.on_isi (b := true) rfl rfl rfl; apply Exists.intro; apply Exists.intro; refine And.intro ?_ ?_; rfl; refine And.intro ?_ ?_; rfl; refine And.intro ?_ ?_; intro c7; simp only [Bool.not_true, Bool.false_eq_true] at c7; intro c7; simp only [Bool.not_true] at c7; refine Lw.ss_nil ?_; refine Lw.ss_cons ?_; refine Lw.sw_if ?_; refine Lw.tw_pw ?_; refine Lw.ww_and ?_; refine Lw.tw_val ?_; refine Lw.ew_callB L2.call_isi rfl (hb.get (by decide)) Lw.bb_isinstance ?_; refine Lw.aw_cons ?_; refine Lw.ew_var (i := 1) rfl (.inl rfl) rfl ?_; refine Lw.aw_cons ?_; refine Lw.ew_ty (n := "list") (hb.get (by decide)) Lw.bb_list ?_; refine Lw.aw_nil ?_; apply Exists.intro; apply Exists.intro; refine And.intro ?_ ?_; apply Lw.views_cons rfl; apply Lw.views_cons rfl; exact Lw.views_nil; refine And.intro ?_ ?_; exact Lw.on_isi (b := false) rfl rfl rfl; apply Exists.intro; apply Exists.intro; refine And.intro ?_ ?_; rfl; refine And.intro ?_ ?_; rfl; refine And.intro ?_ ?_; intro c8; simp only [Bool.false_eq_true] at c8; intro c8; simp only at c8; refine And.intro ?_ ?_; intro c9; simp only [Bool.false_eq_true] at c9; intro c9; simp only at c9; refine Lw.ss_nil ?_; refine Lw.ss_cons ?_; refine Lw.sw_if ?_; refine Lw.tw_cmp (Lw.opr_or L2.op_ne (L2.op_neD hr.units)) ?_; refine Lw.ew_callB L2.call_len_seq rfl (hb.get (by decide)) Lw.bb_len ?_; refine Lw.aw_cons ?_; refine Lw.ew_var (i := 0) rfl (.inl rfl) rfl ?_; refine Lw.aw_nil ?_; apply Exists.intro; apply Exists.intro; refine And.intro ?_ ?_; apply Lw.views_cons rfl; exact Lw.views_nil; refine And.intro ?_ ?_; exact Lw.on_lenT; refine Lw.ew_callB L2.call_len_seq rfl (hb.get (by decide)) Lw.bb_len ?_; refine Lw.aw_cons ?_; refine Lw.ew_var (i := 1) rfl (.inl rfl) rfl ?_; refine Lw.aw_nil ?_; apply Exists.intro; apply Exists.intro; refine And.intro ?_ ?_; apply Lw.views_cons rfl; exact Lw.views_nil; refine And.intro ?_ ?_; exact Lw.on_lenT; apply Exists.intro; apply Exists.intro; apply Exists.intro; refine And.intro ?_ ?_; rfl; refine And.intro ?_ ?_; rfl; refine And.intro ?_ ?_; exact Lw.o2_l Lw.o2_neI; refine And.intro ?_ ?_; intro c10; simp only [ne_eq, decide_eq_true_eq] at c10; refine Lw.ss_cons ?_; refine Lw.sw_ret ?_; refine Lw.ew_bl ?_; refine Exists.intro () ?_; refine And.intro ?_ ?_; refine And.intro ?_ ?_; (show _; rotate_left); exact True.intro; exact True.intro; intro c10; simp only [ne_eq, decide_eq_false_iff_not, Decidable.not_not] at c10; refine Lw.ss_nil ?_; refine Lw.ss_cons ?_; refine Lw.sw_forF po rfl ?_; refine Lw.iw_rng1 (hb.get (by decide)) ?_; refine Lw.aw_cons ?_; refine Lw.ew_callB L2.call_len_seq rfl (hb.get (by decide)) Lw.bb_len ?_; refine Lw.aw_cons ?_; refine Lw.ew_var (i := 1) rfl (.inl rfl) rfl ?_; refine Lw.aw_nil ?_; apply Exists.intro; apply Exists.intro; refine And.intro ?_ ?_; apply Lw.views_cons rfl; exact Lw.views_nil; refine And.intro ?_ ?_; exact Lw.on_lenT; refine Lw.aw_nil ?_; apply Exists.intro; refine And.intro ?_ ?_; apply Lw.views_cons rfl; exact Lw.views_nil; refine And.intro ?_ ?_; refine And.intro ?_ ?_; omega; omega; (show _; rotate_left); intro c6; simp only [Bool.true_eq_false] at c6; intro c2; simp only [D.isBl, Bool.false_eq_true] at c2; (show _; rotate_left); (show _; rotate_left)))
      · congr 1; unfold sameD; symm
        cases e : sameDs gs ds with
        | false => rfl
        | true => have := sameDs_len e; omega
      · have hlen2 : gs.length = ds.length := by omega
        refine Lw.for_intro (fun k Γ => (∀ j, j < k → sameD (gs.getD j .non) (ds.getD j .non) = true) ∧ Γ = [Sl.bo (D.tup gs), Sl.bo (D.tup ds), .un]) ?_ ?_ ?_
        · (focus (apply Exists.intro; refine And.intro ?_ ?_; refine And.intro ?_ ?_; intro j; intro c11; omega; rfl; refine Lw.fgt_eq rfl ?_; refine Lw.fgt_eq rfl ?_; refine Lw.fgt_un ?_; exact Lw.fgt_nil))
        · rintro k Γ' hk2 ⟨hall, rfl⟩
          have hk3 : k < ds.length := by omega
          (focus (refine Lw.gw_name (i := 2) hN rfl (.inl rfl) ?_; refine Lw.ss_norm (Γ' := [_, _, _]) rfl ?_; refine Lw.ss_cons ?_; refine Lw.sw_if ?_; refine Lw.tw_not ?_; refine Lw.tw_val ?_; refine Lw.ew_call d2 hr tk ?_; refine Lw.aw_cons ?_; refine Lw.ew_ix L2.ix_seq ?_; refine Lw.ew_var (i := 0) rfl (.inl rfl) rfl ?_; refine Lw.ew_var (i := 2) rfl (.inl rfl) rfl ?_; apply Exists.intro; apply Exists.intro; apply Exists.intro; refine And.intro ?_ ?_; rfl; refine And.intro ?_ ?_; rfl; refine And.intro ?_ ?_; apply Lw.o2_ixT; apply Lw.atI_get; omega; omega; refine Lw.aw_cons ?_; refine Lw.ew_ix L2.ix_seq ?_; refine Lw.ew_var (i := 1) rfl (.inl rfl) rfl ?_; refine Lw.ew_var (i := 2) rfl (.inl rfl) rfl ?_; apply Exists.intro; apply Exists.intro; apply Exists.intro; refine And.intro ?_ ?_; rfl; refine And.intro ?_ ?_; rfl; refine And.intro ?_ ?_; apply Lw.o2_ixT; apply Lw.atI_get; omega; omega; refine Lw.aw_nil ?_; apply Lw.callPost_2; refine And.intro ?_ ?_; refine And.intro ?_ ?_; rfl; refine And.intro ?_ ?_; rfl; exact True.intro; refine And.intro ?_ ?_; assumption; refine And.intro ?_ ?_; refine And.intro ?_ ?_; (show _; rotate_left); (show _; rotate_left); rintro ⟨⟩ -; refine And.intro ?_ ?_; rfl; refine Lw.outP_eq rfl ?_; apply Exists.intro; apply Exists.intro; refine And.intro ?_ ?_; rfl; refine And.intro ?_ ?_; rfl; refine And.intro ?_ ?_; intro c11; simp only [Bool.not_eq_true'] at c11; refine Lw.ss_norm (Γ' := [_, _, _]) rfl ?_; refine Lw.ss_cons ?_; refine Lw.sw_ret ?_; refine Lw.ew_bl ?_; refine Exists.intro () ?_; refine And.intro ?_ ?_; refine And.intro ?_ ?_; (show _; rotate_left); exact True.intro; exact True.intro; intro c11; simp only [Bool.not_eq_false'] at c11; refine Lw.ss_norm (Γ' := [_, _, _]) rfl ?_; refine Lw.ss_nil ?_; refine Lw.ss_nil ?_; apply Exists.intro; refine And.intro ?_ ?_; refine And.intro ?_ ?_; intro j; intro c12; (show _; rotate_left); rfl; refine Lw.fgt_eq rfl ?_; refine Lw.fgt_eq rfl ?_; refine Lw.fgt_un ?_; exact Lw.fgt_nil; (show _; rotate_left); (show _; rotate_left); (show _; rotate_left); (show _; rotate_left)))
          all_goals try simp only [Int.toNat_natCast] at *
          all_goals first
          | exact okNs_get hk'.2 (by omega)
          | exact okNs_get hd'.2 (by omega)
          | (rcases Nat.lt_or_eq_of_le (Nat.le_of_lt_succ c12) with h | h
             · exact hall j h
             · subst h; exact c11)
          | (congr 1; unfold sameD; symm; exact sameDs_no k hk3 hlen2 c11)
        · rintro Γ' ⟨hall, rfl⟩
          simp only [Int.toNat_natCast] at hall
          (focus (refine Lw.ss_cons ?_; refine Lw.sw_ret ?_; refine Lw.ew_bl ?_; refine Exists.intro () ?_; refine And.intro ?_ ?_; refine And.intro ?_ ?_; (show _; rotate_left); exact True.intro; exact True.intro; (show _; rotate_left)))
          all_goals (congr 1; unfold sameD; exact (sameDs_of hlen2 hall).symm)
    | obj => simp [okN] at hk
    | scr => simp [okN] at hk
    | ty => simp [okN] at hk
    | cls => simp [okN] at hk
    | _ => (focus (refine Lw.ss_norm (Γ' := [_, _, _]) rfl ?_; refine Lw.ss_cons ?_; refine Lw.sw_if ?_; refine Lw.tw_cmp (Lw.opr_or L2.op_isN Lw.op_isBx) ?_; refine Lw.ew_var (i := 1) rfl (.inl rfl) rfl ?_; refine Lw.ew_non ?_; apply Exists.intro; apply Exists.intro; apply Exists.intro; refine And.intro ?_ ?_; rfl; refine And.intro ?_ ?_; rfl; refine And.intro ?_ ?_; exact Lw.o2_l Lw.o2_isN; refine And.intro ?_ ?_; intro c1; simp only [D.isNon, Bool.false_eq_true] at c1; intro c1; simp only [D.isNon] at c1; refine Lw.ss_nil ?_; refine Lw.ss_cons ?_; refine Lw.sw_if ?_; refine Lw.tw_pw ?_; refine Lw.ww_or ?_; refine Lw.tw_cmp (Lw.opr_or L2.op_isN Lw.op_isBx) ?_; refine Lw.ew_var (i := 1) rfl (.inl rfl) rfl ?_; refine Lw.ew_bl ?_; apply Exists.intro; apply Exists.intro; apply Exists.intro; refine And.intro ?_ ?_; rfl; refine And.intro ?_ ?_; rfl; refine And.intro ?_ ?_; exact Lw.o2_r Lw.o2_isB; refine And.intro ?_ ?_; intro c2; simp only [D.isBl] at c2; refine Lw.ww_or1 ?_; refine Lw.tw_cmp (Lw.opr_or L2.op_isN Lw.op_isBx) ?_; refine Lw.ew_var (i := 1) rfl (.inl rfl) rfl ?_; refine Lw.ew_bl ?_; apply Exists.intro; apply Exists.intro; apply Exists.intro; refine And.intro ?_ ?_; rfl; refine And.intro ?_ ?_; rfl; refine And.intro ?_ ?_; exact Lw.o2_r Lw.o2_isB; refine And.intro ?_ ?_; intro c3; simp only [D.isBl, Bool.false_eq_true] at c3; intro c3; simp only [D.isBl] at c3; refine Lw.ss_nil ?_; refine Lw.ss_cons ?_; refine Lw.sw_if ?_; refine Lw.tw_val ?_; refine Lw.ew_callB L2.call_isi rfl (hb.get (by decide)) Lw.bb_isinstance ?_; refine Lw.aw_cons ?_; refine Lw.ew_var (i := 1) rfl (.inl rfl) rfl ?_; refine Lw.aw_cons ?_; refine Lw.ew_ty (n := "int") (hb.get (by decide)) Lw.bb_int ?_; refine Lw.aw_nil ?_; apply Exists.intro; apply Exists.intro; refine And.intro ?_ ?_; apply Lw.views_cons rfl; apply Lw.views_cons rfl; exact Lw.views_nil; refine And.intro ?_ ?_; exact Lw.on_isi (b := false) rfl rfl rfl; apply Exists.intro; apply Exists.intro; refine And.intro ?_ ?_; rfl; refine And.intro ?_ ?_; rfl; refine And.intro ?_ ?_; intro c4; simp only [Bool.false_eq_true] at c4; intro c4; simp only at c4; refine Lw.ss_nil ?_; refine Lw.ss_cons ?_; refine Lw.sw_if ?_; refine Lw.tw_val ?_; refine Lw.ew_callB L2.call_isi rfl (hb.get (by decide)) Lw.bb_isinstance ?_; refine Lw.aw_cons ?_; refine Lw.ew_var (i := 1) rfl (.inl rfl) rfl ?_; refine Lw.aw_cons ?_; refine Lw.ew_ty (n := "str") (hb.get (by decide)) Lw.bb_str ?_; refine Lw.aw_nil ?_; apply Exists.intro; apply Exists.intro; refine And.intro ?_ ?_; apply Lw.views_cons rfl; apply Lw.views_cons rfl; exact Lw.views_nil; refine And.intro ?_ ?_; exact Lw.on_isi (b := false) rfl rfl rfl; apply Exists.intro; apply Exists.intro; refine And.intro ?_ ?_; rfl; refine And.intro ?_ ?_; rfl; refine And.intro ?_ ?_; intro c5; simp only [Bool.false_eq_true] at c5; intro c5; simp only at c5; refine Lw.ss_nil ?_; refine Lw.ss_cons ?_; refine Lw.sw_if ?_; refine Lw.tw_pw ?_; refine Lw.ww_and ?_; refine Lw.tw_val ?_; refine Lw.ew_callB L2.call_isi rfl (hb.get (by decide)) Lw.bb_isinstance ?_; refine Lw.aw_cons ?_; refine Lw.ew_var (i := 1) rfl (.inl rfl) rfl ?_; refine Lw.aw_cons ?_; refine Lw.ew_ty (n := "tuple") (hb.get (by decide)) Lw.bb_tuple ?_; refine Lw.aw_nil ?_; apply Exists.intro; apply Exists.intro; refine And.intro ?_ ?_; apply Lw.views_cons rfl; apply Lw.views_cons rfl; exact Lw.views_nil; refine And.intro ?_ ?_; exact Lw.on_isi (b := true) rfl rfl rfl; apply Exists.intro; apply Exists.intro; refine And.intro ?_ ?_; rfl; refine And.intro ?_ ?_; rfl; refine And.intro ?_ ?_; intro c6; simp only at c6; refine Lw.ww_and1 ?_; refine Lw.tw_not ?_; refine Lw.tw_val ?_; refine Lw.ew_callB L2.call_isi rfl (hb.get (by decide)) Lw.bb_isinstance ?_; refine Lw.aw_cons ?_; refine Lw.ew_var (i := 0) rfl (.inl rfl) rfl ?_; refine Lw.aw_cons ?_; refine Lw.ew_ty (n := "tuple") (hb.get (by decide)) Lw.bb_tuple ?_; refine Lw.aw_nil ?_; apply Exists.intro; apply Exists.intro; refine And.intro ?_ ?_; apply Lw.views_cons rfl; apply Lw.views_cons rfl; exact Lw.views_nil; refine And.intro ?_ ?_; exact Lw.on_isi (b := false) rfl rfl rfl; apply Exists.intro; apply Exists.intro; refine And.intro ?_ ?_; rfl; refine And.intro ?_ ?_; rfl; refine And.intro ?_ ?_; intro c7; simp only [Bool.not_false] at c7; refine Lw.ss_cons ?_; refine Lw.sw_ret ?_; refine Lw.ew_bl ?_; refine Exists.intro () ?_; refine And.intro ?_ ?_; refine And.intro ?_ ?_; rfl; exact True.intro; exact True.intro; intro c7; simp only [Bool.not_false, Bool.true_eq_false] at c7; intro c6; simp only [Bool.true_eq_false] at c6; intro c2; simp only [D.isBl, Bool.false_eq_true] at c2)) <;> simp [sameD]
  | _ => simp [okN] at hd
end
section
variable {P : Program} {w : World} {K : PySem.W.Frag} {mg : Str → Option Value} {base : Heap} {f : Addr} {fd : FuncData}
theorem ok_same01 (hb : Blt mg blts) (F : Fun K "_law_same" "_law_same" s_law_same f fd) (d1 : Def P w K mg base "_law_is_int" 1 cIsInt) (d2 : Def P w K mg base "_law_same" 2 (cSame 0)) : FnOk P w K mg base (L2.CX P w) 3 f fd ["got", "due"] (spC K (cSame 1)) := ok_same1 hb F d1 d2
end
section
variable {P : Program} {w : World} {K : PySem.W.Frag} {mg : Str → Option Value} {base : Heap} {f : Addr} {fd : FuncData} {C Eb : Addr}
theorem okN_int {n : Nat} {i : Int} : okN n (.int i) = true := by cases n <;> rfl
theorem okN_bl {n : Nat} {i : Bool} : okN n (.bl i) = true := by cases n <;> rfl
theorem okNs_ints {n : Nat} : ∀ (ns : List Int), okNs n (ns.map D.int) = true
  | [] => rfl
  | _ :: ns => by
    rw [List.map_cons]
    simp only [okNs, Bool.and_eq_true]
    exact ⟨by cases n <;> rfl, okNs_ints ns⟩
theorem okN_ints {n : Nat} {ns : List Int} (h : ns.length ≤ 100000) : okN (n + 1) (.lst (ns.map D.int)) = true := by
  simp only [okN, Bool.and_eq_true, decide_eq_true_eq, List.length_map]
  exact ⟨h, okNs_ints ns⟩
theorem sameDs_ints : ∀ (ns : List Int), sameDs (ns.map D.int) (ns.map D.int) = true
  | [] => rfl
  | n :: ns => by
    rw [List.map_cons]
    simp only [sameDs, sameD, beq_self_eq_true, Bool.true_and]
    exact sameDs_ints ns
theorem sameD_ints (ns : List Int) : sameD (.lst (ns.map D.int)) (.lst (ns.map D.int)) = true := by
  simp only [sameD]; exact sameDs_ints ns
theorem bl_len60 {L : Int} {B : Nat} (h : L.toNat ≤ 60) : (bl L B).length ≤ 60 := Nat.le_trans (bl0_len B L.toNat) h
theorem mem_bl {L : Int} {B : Nat} {j : Int} (h0 : 0 ≤ j) (h1 : j < L) : j ∈ bl L B ↔ B.testBit j.toNat = true := by
  unfold bl bl0
  simp only [List.mem_map, List.mem_filter, List.mem_range]
  constructor
  · rintro ⟨i, ⟨_, h⟩, rfl⟩; simpa using h
  · intro h
    exact ⟨j.toNat, ⟨by omega, h⟩, by omega⟩
theorem mem_dec {L : Int} {B : Nat} {j : Int} (h0 : 0 ≤ j) (h1 : j < L) : B.testBit j.toNat = decide (j ∈ bl L B) := by
  rw [Bool.eq_iff_iff, decide_eq_true_eq]; exact (mem_bl h0 h1).symm
theorem sameD_int {i j : Int} : sameD (.int i) (.int j) = decide (i = j) := by
  unfold sameD; rfl
theorem sameD_bl {i j : Bool} : sameD (.bl i) (.bl j) = (i == j) := by
  unfold sameD; rfl
theorem isEmpty_pos {ns : List Int} : ((!ns.isEmpty) = decide (0 < (ns.length : Int))) = True := by
  cases ns <;> simp
end
section
theorem bitsN_test (L : Int) : ∀ (ns : List Int) (i : Nat), (bitsN L ns).testBit i = true ↔ ∃ n ∈ ns, (n % L).toNat = i := by
  have key : ∀ (ns : List Int) (b i : Nat), (ns.foldl (fun b n => b ||| 2 ^ (n % L).toNat) b).testBit i = true ↔ b.testBit i = true ∨ ∃ n ∈ ns, (n % L).toNat = i := by
    intro ns
    induction ns with
    | nil => intro b i; simp
    | cons n ns ih =>
      intro b i
      rw [List.foldl_cons, ih]
      simp only [Nat.testBit_or, Nat.testBit_two_pow, Bool.or_eq_true, decide_eq_true_eq, List.mem_cons]
      constructor
      · rintro ((h | h) | ⟨m, h1, h2⟩)
        · exact .inl h
        · exact .inr ⟨n, .inl rfl, h⟩
        · exact .inr ⟨m, .inr h1, h2⟩
      · rintro (h | ⟨m, rfl | h1, h2⟩)
        · exact .inl (.inl h)
        · exact .inl (.inr h2)
        · exact .inr ⟨m, h1, h2⟩
  intro ns i
  unfold bitsN
  rw [key]; simp
theorem mem_bl' {L : Int} {B : Nat} {j : Int} : j ∈ bl L B ↔ 0 ≤ j ∧ j < L ∧ B.testBit j.toNat = true := by
  unfold bl bl0
  simp only [List.mem_map, List.mem_filter, List.mem_range]
  constructor
  · rintro ⟨i, ⟨h1, h2⟩, rfl⟩
    exact ⟨by omega, by omega, by simpa using h2⟩
  · rintro ⟨h0, h1, h2⟩
    exact ⟨j.toNat, ⟨by omega, h2⟩, by omega⟩
theorem bl_sorted (L : Int) (B : Nat) : (bl L B).Pairwise (· < ·) := by
  unfold bl bl0
  rw [List.pairwise_map]
  refine List.Pairwise.imp (R := fun a b : Nat => a < b) (fun h => by omega) ?_
  exact List.Pairwise.filter _ List.pairwise_lt_range
theorem bl_nodup (L : Int) (B : Nat) : (bl L B).Nodup := (bl_sorted L B).imp fun h => by omega
/-- a sorted list of beats is that of its bits -/
theorem bl_of_perm {L : Int} {B : Nat} {ns : List Int} (hn : ns.Nodup) (h : ∀ j, j ∈ ns ↔ 0 ≤ j ∧ j < L ∧ B.testBit j.toNat = true) : srt ns = bl L B := by
  symm
  refine srt_eq ?_ ((bl_sorted L B).imp fun h => by omega)
  rw [List.perm_ext_iff_of_nodup (bl_nodup L B) hn]
  exact fun j => mem_bl'.trans (h j).symm
theorem bits_eq {A B : Nat} (h : ∀ i, A.testBit i = true ↔ B.testBit i = true) : A = B := Nat.eq_of_testBit_eq fun i => Bool.eq_iff_iff.mpr (h i)
theorem bitsN_below {L : Int} (hL : 1 ≤ L) {ns : List Int} {i : Nat} (h : (bitsN L ns).testBit i = true) : (i : Int) < L := by
  obtain ⟨n, _, e⟩ := (bitsN_test L ns i).mp h
  have h1 := Int.emod_nonneg n (b := L) (by omega)
  have h2 := Int.emod_lt_of_pos n (b := L) (by omega)
  omega
/-- the beats of a list whose members are, modulo the length, the beats of B -/
theorem bitsN_of {L : Int} (hL : 1 ≤ L) {ns : List Int} {B : Nat} (hB : ∀ i, B.testBit i = true → (i : Int) < L) (h1 : ∀ n ∈ ns, B.testBit (n % L).toNat = true) (h2 : ∀ i, B.testBit i = true → ∃ n ∈ ns, (n % L).toNat = i) : bitsN L ns = B := by
  refine bits_eq fun i => ?_
  rw [bitsN_test]
  constructor
  · rintro ⟨n, hn, rfl⟩; exact h1 n hn
  · exact h2 i
theorem bitsN_bl {L : Int} (hL : 1 ≤ L) {B : Nat} (hB : ∀ i, B.testBit i = true → (i : Int) < L) : bitsN L (bl L B) = B := by
  refine bitsN_of hL hB (fun n hn => ?_) fun i hi => ?_
  · obtain ⟨h0, h1, h2⟩ := mem_bl'.mp hn
    rw [Int.emod_eq_of_lt h0 h1]; exact h2
  · refine ⟨i, mem_bl'.mpr ⟨by omega, hB i hi, by simpa using hi⟩, ?_⟩
    rw [Int.emod_eq_of_lt (by omega) (hB i hi)]; simp
theorem bl_bitsN_self {L : Int} (hL : 1 ≤ L) {ns : List Int} : bitsN L (bl L (bitsN L ns)) = bitsN L ns := bitsN_bl hL fun _ h => bitsN_below hL h
theorem xor_test {B s i : Nat} : (B ^^^ 2 ^ s).testBit i = true ↔ (B.testBit i = true ↔ s ≠ i) := by
  simp only [Nat.testBit_xor, Nat.testBit_two_pow, bne_iff_ne, ne_eq]
  cases h : B.testBit i <;> by_cases e : s = i <;> simp [e]
theorem toggle_out {L s : Int} {B : Nat} (h0 : 0 ≤ s) (h1 : s < L) (h : ¬ s ∈ bl L B) : (bl L B ++ [s]).Nodup ∧ ∀ j, j ∈ bl L B ++ [s] ↔ 0 ≤ j ∧ j < L ∧ (B ^^^ 2 ^ s.toNat).testBit j.toNat = true := by
  constructor
  · rw [List.nodup_append]
    refine ⟨bl_nodup L B, by simp, fun a ha b hb e => ?_⟩
    rw [List.mem_singleton] at hb
    subst hb; subst e; exact h ha
  · intro j
    rw [List.mem_append, List.mem_singleton, mem_bl', xor_test]
    rw [mem_bl'] at h
    constructor
    · rintro (⟨a, b, c⟩ | rfl)
      · refine ⟨a, b, fun _ e => h ⟨h0, h1, ?_⟩, fun _ => c⟩
        rw [e]; exact c
      · exact ⟨h0, h1, fun c => absurd ⟨h0, h1, c⟩ h, fun e => absurd rfl e⟩
    · rintro ⟨a, b, c⟩
      by_cases e : s.toNat = j.toNat
      · right; omega
      · exact .inl ⟨a, b, c.mpr e⟩
theorem toggle_in {L s : Int} {B : Nat} (h0 : 0 ≤ s) (h1 : s < L) (h : s ∈ bl L B) : ((bl L B).filter fun x => decide (x ≠ s)).Nodup ∧ ∀ j, j ∈ ((bl L B).filter fun x => decide (x ≠ s)) ↔ 0 ≤ j ∧ j < L ∧ (B ^^^ 2 ^ s.toNat).testBit j.toNat = true := by
  constructor
  · exact (bl_nodup L B).sublist List.filter_sublist
  · intro j
    rw [List.mem_filter, mem_bl', xor_test, decide_eq_true_eq]
    rw [mem_bl'] at h
    constructor
    · rintro ⟨⟨a, b, c⟩, d⟩
      exact ⟨a, b, fun _ e => d (by omega), fun _ => c⟩
    · rintro ⟨a, b, c⟩
      by_cases e : s.toNat = j.toNat
      · have : B.testBit j.toNat = true := e ▸ h.2.2
        exact absurd e (c.mp this)
      · exact ⟨⟨a, b, c.mpr e⟩, fun q => e (by rw [q])⟩
end
section
/-! sets of beats as numbers -/
def Blw (L : Int) (B : Nat) : Prop := ∀ i, B.testBit i = true → (i : Int) < L
@[irreducible] def mkN (L : Int) (p : Nat → Bool) : Nat := bitsN L (((List.range L.toNat).filter p).map fun (i : Nat) => (i : Int))
theorem mkN_test {L : Int} (hL : 1 ≤ L) {p : Nat → Bool} {i : Nat} : (mkN L p).testBit i = true ↔ (i : Int) < L ∧ p i = true := by
  unfold mkN
  rw [bitsN_test]
  constructor
  · rintro ⟨n, hn, rfl⟩
    obtain ⟨j, hj, rfl⟩ := List.mem_map.mp hn
    obtain ⟨h1, h2⟩ := List.mem_filter.mp hj
    rw [List.mem_range] at h1
    rw [Int.emod_eq_of_lt (by omega) (by omega)]
    rw [Int.toNat_natCast]
    exact ⟨by omega, h2⟩
  · rintro ⟨h1, h2⟩
    refine ⟨(i : Int), List.mem_map.mpr ⟨i, List.mem_filter.mpr ⟨List.mem_range.mpr (by omega), h2⟩, rfl⟩, ?_⟩
    rw [Int.emod_eq_of_lt (by omega) h1]; simp
theorem mkN_blw {L : Int} (hL : 1 ≤ L) {p : Nat → Bool} : Blw L (mkN L p) := fun i h => ((mkN_test hL).mp h).1
theorem eq_mkN {L : Int} (hL : 1 ≤ L) {p : Nat → Bool} {B : Nat} (hB : Blw L B) (h : ∀ i : Nat, (i : Int) < L → (B.testBit i = true ↔ p i = true)) : B = mkN L p := bits_eq fun i => by
  rw [mkN_test hL]
  exact ⟨fun q => ⟨hB i q, (h i (hB i q)).mp q⟩, fun q => (h i q.1).mpr q.2⟩
theorem blw_or {L : Int} {A B : Nat} (a : Blw L A) (b : Blw L B) : Blw L (A ||| B) := fun i h => by
  rw [Nat.testBit_or, Bool.or_eq_true] at h
  exact h.elim (a i) (b i)
theorem blw_and {L : Int} {A B : Nat} (a : Blw L A) : Blw L (A &&& B) := fun i h => by
  rw [Nat.testBit_and, Bool.and_eq_true] at h
  exact a i h.1
theorem blw_xor {L : Int} {A B : Nat} (a : Blw L A) (b : Blw L B) : Blw L (A ^^^ B) := fun i h => by
  rw [Nat.testBit_xor] at h
  cases ha : A.testBit i with
  | true => exact a i ha
  | false => rw [ha] at h; exact b i (by simpa using h)
theorem blw_zero {L : Int} : Blw L 0 := fun i h => by simp at h
theorem blw_bits {L : Int} (hL : 1 ≤ L) {ns : List Int} : Blw L (bitsN L ns) := fun i h => bitsN_below hL h
theorem blw_lt {L : Int} {B : Nat} (h : Blw L B) : B < 2 ^ L.toNat := by
  apply Nat.lt_pow_two_of_testBit
  intro i hi
  cases q : B.testBit i with
  | false => rfl
  | true => have := h i q; omega
theorem mod2 (x : Nat) : x % 2 = if x.testBit 0 then 1 else 0 := by
  have := Nat.mod_two_eq_one_iff_testBit_zero (x := x)
  split <;> rename_i h
  · exact this.mpr h
  · have := mt this.mp h; omega
theorem or_eq_xor_add : ∀ (n a b : Nat), a < 2 ^ n → (a ||| b) = (a ^^^ b) + (a &&& b)
  | 0, a, b, h => by
    have : a = 0 := by simpa using h
    subst this; simp
  | n + 1, a, b, h => by
    have ih := or_eq_xor_add n (a / 2) (b / 2) (by rw [Nat.pow_succ] at h; omega)
    have e1 := Nat.div_add_mod (a ||| b) 2
    have e2 := Nat.div_add_mod (a ^^^ b) 2
    have e3 := Nat.div_add_mod (a &&& b) 2
    rw [Nat.or_div_two] at e1
    rw [Nat.xor_div_two] at e2
    rw [Nat.and_div_two] at e3
    have m : (a ||| b) % 2 = (a ^^^ b) % 2 + (a &&& b) % 2 := by
      rw [mod2, mod2 (a ^^^ b), mod2 (a &&& b), Nat.testBit_or, Nat.testBit_xor, Nat.testBit_and]
      cases a.testBit 0 <;> cases b.testBit 0 <;> rfl
    omega
theorem bitXor_nat (a b : Nat) : Builtin.bitXor (a : Int) (b : Int) = ((a ^^^ b : Nat) : Int) := by
  unfold Builtin.bitXor
  rw [bitOr_nat, bitAnd_nat, or_eq_xor_add a a b Nat.lt_two_pow_self]
  omega
/-- turned by s -/
def turnN (L : Int) (B s : Nat) : Nat := ((B <<< s) ||| (B >>> (L.toNat - s))) &&& (2 ^ L.toNat - 1)
theorem turnN_test {L : Int} {B s i : Nat} (hL : 1 ≤ L) (hB : Blw L B) (hs : (s : Int) ≤ L) : (turnN L B s).testBit i = true ↔ (i : Int) < L ∧ B.testBit (((i : Int) - s) % L).toNat = true := by
  unfold turnN
  rw [Nat.testBit_and, Nat.testBit_two_pow_sub_one, Nat.testBit_or, Nat.testBit_shiftLeft, Nat.testBit_shiftRight, Bool.and_eq_true, decide_eq_true_eq, Bool.or_eq_true, Bool.and_eq_true, decide_eq_true_eq]
  constructor
  · rintro ⟨h, h1⟩
    refine ⟨h1 |> fun _ => by omega, ?_⟩
    rcases h with ⟨h2, h3⟩ | h2
    · have := hB _ h3
      rw [Int.emod_eq_of_lt (by omega) (by omega)]
      rwa [show ((i : Int) - s).toNat = i - s by omega]
    · have := hB _ h2
      rw [show ((i : Int) - s) = ((L.toNat - s + i : Nat) : Int) - L by omega, Int.sub_emod_right, Int.emod_eq_of_lt (by omega) (by omega), Int.toNat_natCast]
      exact h2
  · rintro ⟨h1, h2⟩
    refine ⟨?_, by omega⟩
    by_cases hle : s ≤ i
    · rw [Int.emod_eq_of_lt (by omega) (by omega), show ((i : Int) - s).toNat = i - s by omega] at h2
      exact .inl ⟨hle, h2⟩
    · rw [show ((i : Int) - s) = ((L.toNat - s + i : Nat) : Int) - L by omega, Int.sub_emod_right, Int.emod_eq_of_lt (by omega) (by omega), Int.toNat_natCast] at h2
      exact .inr h2
theorem turnN_blw {L : Int} {B s : Nat} (hL : 1 ≤ L) (hB : Blw L B) (hs : (s : Int) ≤ L) : Blw L (turnN L B s) := fun i h => ((turnN_test hL hB hs).mp h).1
theorem emod_iff {L a b : Int} : a % L = b % L ↔ L ∣ a - b := by
  rw [Int.emod_eq_emod_iff_emod_sub_eq_zero, Int.dvd_iff_emod_eq_zero]
/-- a list of beats, each moved by g, whose inverse is h -/
theorem bitsN_map {L : Int} (hL : 1 ≤ L) {A : Nat} {g h : Int → Int} (hg : ∀ x i : Int, L ∣ g x - i ↔ L ∣ x - h i) : bitsN L ((bl L A).map g) = mkN L fun i => A.testBit (h i % L).toNat := by
  refine eq_mkN hL (blw_bits hL) fun i hi => ?_
  rw [bitsN_test]
  have h0 := Int.emod_nonneg (h i) (b := L) (by omega)
  have h1 := Int.emod_lt_of_pos (h i) (b := L) (by omega)
  constructor
  · rintro ⟨n, hn, e⟩
    obtain ⟨x, hx, rfl⟩ := List.mem_map.mp hn
    obtain ⟨x0, x1, x2⟩ := mem_bl'.mp hx
    have g0 := Int.emod_nonneg (g x) (b := L) (by omega)
    have e1 : g x % L = (i : Int) % L := by rw [Int.emod_eq_of_lt (by omega) hi]; omega
    have e2 := emod_iff.mpr ((hg x i).mp (emod_iff.mp e1))
    rw [Int.emod_eq_of_lt x0 x1] at e2
    rw [← e2]; exact x2
  · intro q
    refine ⟨_, List.mem_map.mpr ⟨h i % L, mem_bl'.mpr ⟨h0, h1, q⟩, rfl⟩, ?_⟩
    have e2 : L ∣ (h i % L) - h i := emod_iff.mp (by rw [Int.emod_emod])
    have e1 := emod_iff.mpr ((hg _ i).mpr e2)
    rw [e1, Int.emod_eq_of_lt (by omega) hi]; simp
def negN (L : Int) (A : Nat) : Nat := mkN L fun i => A.testBit ((-(i : Int)) % L).toNat
theorem bitsN_neg {L : Int} (hL : 1 ≤ L) {A : Nat} : bitsN L ((bl L A).map fun x => -x) = negN L A := bitsN_map hL (h := fun i => -i) fun x i => by
  rw [← Int.dvd_neg, show -(-x - i) = x - -i by omega]
def movN (L k : Int) (A : Nat) : Nat := mkN L fun i => A.testBit (((i : Int) - k) % L).toNat
theorem bitsN_mov {L k : Int} (hL : 1 ≤ L) {A : Nat} : bitsN L ((bl L A).map fun x => x + k) = movN L k A := bitsN_map hL (h := fun i => i - k) fun x i => by
  rw [show x + k - i = x - (i - k) by omega]
theorem bitsN_movL {L k : Int} (hL : 1 ≤ L) {A : Nat} : bitsN L ((bl L A).map fun x => x - k) = movN L (-k) A := bitsN_map hL (h := fun i => i - -k) fun x i => by
  rw [show x - k - i = x - (i - -k) by omega]
def invN (L : Int) (A : Nat) : Nat := mkN L fun i => !A.testBit i
/-- a + b -/
def addN (L : Int) (A B : Nat) : Nat := mkN L fun i => (bl L A).any fun x => B.testBit (((i : Int) - x) % L).toNat
def rangeF (p : Nat → Bool) (k : Nat) : List Int := ((List.range k).filter p).map fun (i : Nat) => (i : Int)
theorem rangeF_zero {p : Nat → Bool} : rangeF p 0 = [] := by unfold rangeF; rfl
theorem rangeF_succ (p : Nat → Bool) (n : Nat) : rangeF p (n + 1) = if p n then rangeF p n ++ [(n : Int)] else rangeF p n := by
  unfold rangeF
  rw [List.range_succ, List.filter_append, List.map_append]
  by_cases h : p n <;> simp [h]
theorem rangeF_len (p : Nat → Bool) (n : Nat) : (rangeF p n).length ≤ n := by
  unfold rangeF
  rw [List.length_map]
  exact Nat.le_trans (List.length_filter_le _ _) (by simp)
theorem bitsN_rangeF {L : Int} {p : Nat → Bool} : bitsN L (rangeF p L.toNat) = mkN L p := by unfold mkN rangeF; rfl
def sumN (L : Int) (B : Nat) (xs : List Int) : Nat := xs.foldl (fun b x => b ||| turnN L B x.toNat) 0
theorem sumN_snoc (L : Int) (B : Nat) (xs : List Int) (x : Int) : sumN L B (xs ++ [x]) = sumN L B xs ||| turnN L B x.toNat := by
  unfold sumN; rw [List.foldl_append]; rfl
theorem sumN_test {L : Int} {B : Nat} : ∀ {xs : List Int} {i : Nat}, (sumN L B xs).testBit i = true ↔ ∃ x ∈ xs, (turnN L B x.toNat).testBit i = true := by
  have key : ∀ (xs : List Int) (b i : Nat), (xs.foldl (fun b x => b ||| turnN L B x.toNat) b).testBit i = true ↔ b.testBit i = true ∨ ∃ x ∈ xs, (turnN L B x.toNat).testBit i = true := by
    intro xs
    induction xs with
    | nil => intro b i; simp
    | cons n ns ih =>
      intro b i
      rw [List.foldl_cons, ih]
      simp only [Nat.testBit_or, Bool.or_eq_true, List.mem_cons]
      constructor
      · rintro ((h | h) | ⟨m, h1, h2⟩)
        · exact .inl h
        · exact .inr ⟨n, .inl rfl, h⟩
        · exact .inr ⟨m, .inr h1, h2⟩
      · rintro (h | ⟨m, rfl | h1, h2⟩)
        · exact .inl (.inl h)
        · exact .inl (.inr h2)
        · exact .inr ⟨m, h1, h2⟩
  intro xs i
  unfold sumN
  rw [key]; simp
theorem sumN_blw {L : Int} (hL : 1 ≤ L) {B : Nat} (hB : Blw L B) {xs : List Int} (hx : ∀ x ∈ xs, 0 ≤ x ∧ x < L) : Blw L (sumN L B xs) := fun i h => by
  obtain ⟨x, h1, h2⟩ := sumN_test.mp h
  obtain ⟨h3, h4⟩ := hx x h1
  exact turnN_blw hL hB (by omega) i h2
theorem sumN_add {L : Int} (hL : 1 ≤ L) {A B : Nat} (hB : Blw L B) : sumN L B (bl L A) = addN L A B := by
  refine eq_mkN hL (sumN_blw hL hB fun x hx => ?_) fun i hi => ?_
  · obtain ⟨a, b, _⟩ := mem_bl'.mp hx; exact ⟨a, b⟩
  · rw [sumN_test, List.any_eq_true]
    constructor
    · rintro ⟨x, hx, h⟩
      obtain ⟨a, b, _⟩ := mem_bl'.mp hx
      have := ((turnN_test hL hB (by omega)).mp h).2
      rw [Int.toNat_of_nonneg a] at this
      exact ⟨x, hx, this⟩
    · rintro ⟨x, hx, h⟩
      obtain ⟨a, b, _⟩ := mem_bl'.mp hx
      refine ⟨x, hx, (turnN_test hL hB (by omega)).mpr ⟨hi, ?_⟩⟩
      rw [Int.toNat_of_nonneg a]; exact h
theorem mem_take_bl {L : Int} {A k : Nat} {x : Int} (h : x ∈ (bl L A).take k) : 0 ≤ x ∧ x < L := by
  obtain ⟨a, b, _⟩ := mem_bl'.mp (List.mem_of_mem_take h); exact ⟨a, b⟩
theorem getD_bl {L : Int} {A k : Nat} (h : k < (bl L A).length) : 0 ≤ (bl L A).getD k 0 ∧ (bl L A).getD k 0 < L ∧ A.testBit ((bl L A).getD k 0).toNat = true := by
  have : (bl L A).getD k 0 ∈ bl L A := by
    rw [List.getD_eq_getElem?_getD, List.getElem?_eq_getElem h]; exact List.getElem_mem h
  exact mem_bl'.mp this
theorem negN_blw {L : Int} (hL : 1 ≤ L) {A : Nat} : Blw L (negN L A) := mkN_blw hL
theorem movN_blw {L k : Int} (hL : 1 ≤ L) {A : Nat} : Blw L (movN L k A) := mkN_blw hL
theorem invN_blw {L : Int} (hL : 1 ≤ L) {A : Nat} : Blw L (invN L A) := mkN_blw hL
theorem addN_blw {L : Int} (hL : 1 ≤ L) {A B : Nat} : Blw L (addN L A B) := mkN_blw hL
theorem int_nat {x : Int} (h : 0 ≤ x) : D.int x = D.int (x.toNat : Int) := by rw [Int.toNat_of_nonneg h]
theorem fil_t {l : List Int} {p : Int → Bool} {k : Nat} (h : k < l.length) (hp : p (l.getD k 0) = true) : List.map D.int ((l.take k).filter p) ++ [D.int (l.getD k 0)] = List.map D.int ((l.take (k + 1)).filter p) := by
  rw [ints_filter h, if_pos hp]
theorem fil_f {l : List Int} {p : Int → Bool} {k : Nat} (h : k < l.length) (hp : p (l.getD k 0) = false) : List.map D.int ((l.take k).filter p) = List.map D.int ((l.take (k + 1)).filter p) := by
  rw [ints_filter h, if_neg (by rw [hp]; simp)]
theorem fil_len {l : List Int} {p : Int → Bool} {k n : Nat} (h : k < l.length) (hn : l.length ≤ n) : (List.map D.int ((l.take k).filter p)).length ≤ n := by
  rw [List.length_map]
  have h1 := List.length_filter_le p (l.take k)
  have h2 := List.length_take_le k l
  omega
end
section
variable {P : Program} {w : World} {K : PySem.W.Frag} {mg : Str → Option Value} {base : Heap} {f : Addr} {fd : FuncData} {C Eb : Addr}
/-- the wrong length -/
def cInitBad (C Eb : Addr) : Ct (Int × D) := .det
  (ar := fun (x1, x2) => [.mu (.obj C []), .im (.int x1), .bo x2])
  (ok := fun (x1, x2) => x1 < 1 ∨ 60 < x1)
  (aft := fun (x1, x2) => [.mu (.obj C []), .im (.int x1), .bo x2])
  (out := fun _ => .exc Eb [])
theorem ok_initB (hb : Blt mg blts) (F : Fun K "__init__" "Beats.__init__" s_Beats_init f fd) (d1 : Def P w K mg base "check_length" 2 (cCheckBad Eb)) : FnOk P w K mg base (L2.CX P w) 3 f fd ["self", "length", "members"] (spC K (cInitBad C Eb)) := by
  (refine Lw.fn_okC F sc_Beats_init (fun _ => rfl) fun ⟨L, d⟩ cdv A outer s H E Z hk hr tk po => ?_; have hN := (sc_Beats_init).nd)
  replace hk : L < 1 ∨ 60 < L := hk
  (focus (refine Lw.ss_norm (Γ' := [_, _, _, _, _, _]) rfl ?_; refine Lw.ss_cons ?_; refine Lw.sw_expr ?_; refine Lw.ew_call d1 hr tk ?_; refine Lw.aw_cons ?_; refine Lw.ew_var (i := 1) rfl (.inl rfl) rfl ?_; refine Lw.aw_nil ?_; apply Lw.callPost_1; refine And.intro ?_ ?_; refine And.intro ?_ ?_; (with_reducible rfl); exact True.intro; refine And.intro ?_ ?_; rfl; refine And.intro ?_ ?_; dsimp only [Tst.cCheckBad, Lw.Ct.det]; assumption; rintro ⟨⟩ -; refine And.intro ?_ ?_; rfl; refine Lw.outP_eq rfl ?_; refine Exists.intro () ?_; refine And.intro ?_ ?_; refine And.intro ?_ ?_; rfl; refine And.intro ?_ ?_; rfl; exact True.intro; exact True.intro))
/-- told of an error's class: under LightsError and ValueError, and under none of two others -/
structure ErrK (K : PySem.W.Frag) (E L a b : Addr) : Prop where
  x0 : PySem.W.exmOne K (.ref E) (.ref E) = some true
  x1 : PySem.W.exmOne K (.ref E) (.ref L) = some true
  k1 : PySem.W.kitOne K (.ref E) (.ref L) = some true
  k2 : PySem.W.kitOne K (.ref E) (.type "ValueError") = some true
  k3 : PySem.W.kitOne K (.ref E) (.ref a) = some false
  k4 : PySem.W.kitOne K (.ref E) (.ref b) = some false
end
section
variable {P : Program} {w : World} {K : PySem.W.Frag} {mg : Str → Option Value} {base : Heap} {f : Addr} {fd : FuncData} {C Eb : Addr}
theorem bl0_zero {B : Nat} : bl0 B 0 = [] := by unfold bl0; rfl
/-- from_bits -/
def cFrom (C : Addr) : Ct (Int × Nat) := .det
  (ar := fun (L, B) => [.im (.int L), .im (.int (B : Int))])
  (ok := fun (L, B) => 1 ≤ L ∧ L ≤ 60 ∧ Blw L B)
  (aft := fun (L, B) => [.im (.int L), .im (.int (B : Int))])
  (out := fun (L, B) => .ret (.sc (beatsD C L B)))
theorem ok_from_bits (hb : Blt mg blts) (F : Fun K "from_bits" "from_bits" s_from_bits f fd) (d1 : Mkd P w K mg base "Beats" C 3 (cInit C)) : FnOk P w K mg base (L2.CX P w) 5 f fd ["length", "bits"] (spC K (cFrom C)) := by
  (refine Lw.fn_okC F sc_from_bits (fun _ => rfl) fun ⟨L, B⟩ cdv A outer s H E Z ⟨hL1, hL2, hB⟩ hr tk po => ?_; have hN := (sc_from_bits).nd)
  replace hL1 : 1 ≤ L := hL1
  replace hL2 : L ≤ 60 := hL2
  replace hB : Blw L B := hB
  have hbb : bitsN L (bl L B) = B := bitsN_bl hL1 (by unfold Blw at hB; exact hB)
  (focus (refine Lw.ss_norm (Γ' := [_, _, _]) rfl ?_; refine Lw.ss_cons ?_; refine Lw.sw_ret ?_; refine Lw.ew_make d1 hr tk ?_; refine Lw.aw_cons ?_; refine Lw.ew_var (i := 0) rfl (.inl rfl) rfl ?_; refine Lw.aw_cons ?_; refine Lw.ew_lc (own := [("beat", 2)]) rfl hN (L2.blkOk_by (N := ["length", "bits", "beat"]) (sc := (defScope s_from_bits)) (by decide +kernel)) ?_; refine Lw.iw_rng1 (hb.get (by decide)) ?_; refine Lw.aw_cons ?_; refine Lw.ew_var (i := 0) rfl (.inl rfl) rfl ?_; refine Lw.aw_nil ?_; apply Exists.intro; refine And.intro ?_ ?_; apply Lw.views_cons rfl; exact Lw.views_nil; refine And.intro ?_ ?_; refine And.intro ?_ ?_; omega; omega; (show _; rotate_left); (show _; rotate_left)))
  refine Lw.lc_intro (fun k acc Γ => acc = (bl0 B k).map D.int ∧ Γ = [.im (.int L), .im (.int (B : Int)), .un]) ?_ ?_ ?_
  · exact ⟨by rw [bl0_zero]; rfl, rfl⟩
  · rintro k acc Γ' hk ⟨rfl, rfl⟩
    have hl := bl0_len B k
    have e1 := bit_test B k
    (focus (refine And.intro ?_ ?_; apply Lw.noOwn_cons rfl rfl; exact Lw.noOwn_nil; intro Z'; intro s; intro H; intro C; intro cl; intro fp; refine Lw.gc_name (i := 2) hN rfl (.inl rfl) (by decide) ?_; intro s; intro H; intro C; intro cl; intro fp; refine Lw.tc_one ?_; refine Lw.tw_val ?_; refine Lw.ew_op L2.op_and ?_; refine Lw.ew_op L2.op_shr ?_; refine Lw.ew_var (i := 1) rfl (.inr (.inl rfl)) rfl ?_; refine Lw.ew_var (i := 2) rfl (.inl rfl) rfl ?_; apply Exists.intro; apply Exists.intro; apply Exists.intro; refine And.intro ?_ ?_; rfl; refine And.intro ?_ ?_; rfl; refine And.intro ?_ ?_; refine Lw.o2_shr ?_; omega; refine Lw.ew_int ?_; apply Exists.intro; apply Exists.intro; apply Exists.intro; refine And.intro ?_ ?_; rfl; refine And.intro ?_ ?_; rfl; refine And.intro ?_ ?_; exact Lw.o2_and; apply Exists.intro; apply Exists.intro; refine And.intro ?_ ?_; rfl; refine And.intro ?_ ?_; rfl; refine And.intro ?_ ?_; intro c1; simp only [bne_iff_ne, ne_eq] at c1; intro s; intro H; intro C; intro cl; intro fp; refine Lw.ew_var (i := 2) rfl (.inl rfl) rfl ?_; refine And.intro ?_ ?_; exact True.intro; refine And.intro ?_ ?_; (simp only [List.length_map, List.length_append, List.length_nil, List.length_cons, List.length_set, List.length_replicate, List.length_range, List.length_take, List.length_reverse]; omega); refine And.intro ?_ ?_; (show _; rotate_left); refine Lw.cons_eq rfl ?_; refine Lw.cons_eq rfl ?_; refine Lw.cons_eq rfl ?_; rfl; intro c1; simp only [bne_eq_false_iff_eq] at c1; refine And.intro ?_ ?_; exact True.intro; refine And.intro ?_ ?_; (show _; rotate_left); refine Lw.cons_eq rfl ?_; refine Lw.cons_eq rfl ?_; refine Lw.cons_eq rfl ?_; rfl; (show _; rotate_left); (show _; rotate_left)))
    · have c2 : B.testBit k = true := by rw [← e1, bne_iff_ne]; exact c1
      rw [bl0_succ, if_pos c2, List.map_append]; rfl
    · have c2 : ¬ B.testBit k = true := by rw [← e1, bne_iff_ne]; exact fun h => h c1
      rw [bl0_succ, if_neg c2]
  · rintro acc Γ' ⟨rfl, rfl⟩
    have e : bl0 B L.toNat = bl L B := by unfold bl; rfl
    rw [e]
    (focus (refine Lw.aw_nil ?_; apply Lw.makePost_3; refine And.intro ?_ ?_; refine And.intro ?_ ?_; exact Or.inl rfl; refine And.intro ?_ ?_; (with_reducible rfl); refine And.intro ?_ ?_; rfl; exact True.intro; refine And.intro ?_ ?_; rfl; refine And.intro ?_ ?_; refine And.intro ?_ ?_; exact isSeq_l; refine And.intro ?_ ?_; assumption; assumption; rintro ⟨⟩ -; refine And.intro ?_ ?_; rfl; refine Lw.outP_eq rfl ?_; refine And.intro ?_ ?_; rfl; apply Exists.intro; refine And.intro ?_ ?_; rfl; refine Exists.intro () ?_; refine And.intro ?_ ?_; refine And.intro ?_ ?_; (show _; rotate_left); exact True.intro; exact True.intro; (show _; rotate_left)))
    rw [hbb]; rfl
/-- check_same -/
def cSameOk (C : Addr) : Ct (Int × Nat × Nat) := .det
  (ar := fun (L, A, B) => [.im (beatsD C L A), .im (beatsD C L B)])
  (ok := fun _ => True)
  (aft := fun (L, A, B) => [.im (beatsD C L A), .im (beatsD C L B)])
  (out := fun _ => .ret (.sc .non))
def cSameBad (C Eb : Addr) : Ct (Int × Nat × Int × Nat) := .det
  (ar := fun (L, A, M, B) => [.im (beatsD C L A), .im (beatsD C M B)])
  (ok := fun (L, A, M, B) => L ≠ M)
  (aft := fun (L, A, M, B) => [.im (beatsD C L A), .im (beatsD C M B)])
  (out := fun _ => .exc Eb [])
theorem ok_check_same (hb : Blt mg blts) (F : Fun K "check_same" "check_same" s_check_same f fd) (hC : Cls K C) (n1 : NoAttr K C "length") (e1 : Exc0 K mg "BadBeats" Eb) : FnOk P w K mg base (L2.CX P w) 1 f fd ["one", "other"] (spC K (cSameOk C)) := by
  (refine Lw.fn_okC F sc_check_same (fun _ => rfl) fun ⟨L, A, B⟩ cdv A outer s H E Z hk hr tk po => ?_; have hN := (sc_check_same).nd)
  (focus (refine Lw.ss_norm (Γ' := [_, _]) rfl ?_; refine Lw.ss_cons ?_; refine Lw.sw_if ?_; refine Lw.tw_cmp (Lw.opr_or L2.op_ne (L2.op_neD hr.units)) ?_; refine Lw.ew_fld ?_; refine Lw.ew_var (i := 0) rfl (.inl rfl) rfl ?_; apply Exists.intro; apply Exists.intro; apply Exists.intro; refine And.intro ?_ ?_; rfl; refine And.intro ?_ ?_; assumption; refine And.intro ?_ ?_; assumption; refine And.intro ?_ ?_; rfl; refine Lw.ew_fld ?_; refine Lw.ew_var (i := 1) rfl (.inl rfl) rfl ?_; apply Exists.intro; apply Exists.intro; apply Exists.intro; refine And.intro ?_ ?_; rfl; refine And.intro ?_ ?_; assumption; refine And.intro ?_ ?_; assumption; refine And.intro ?_ ?_; rfl; apply Exists.intro; apply Exists.intro; apply Exists.intro; refine And.intro ?_ ?_; rfl; refine And.intro ?_ ?_; rfl; refine And.intro ?_ ?_; exact Lw.o2_l Lw.o2_neI; refine And.intro ?_ ?_; intro c1; simp only [ne_eq, not_true_eq_false, decide_false, Bool.false_eq_true] at c1; intro c1; simp only [ne_eq, not_true_eq_false, decide_false] at c1; refine Lw.ss_nil ?_; refine Lw.ss_nil ?_; refine Exists.intro () ?_; refine And.intro ?_ ?_; refine And.intro ?_ ?_; (with_reducible rfl); exact True.intro; exact True.intro))
theorem ok_check_sameB (hb : Blt mg blts) (F : Fun K "check_same" "check_same" s_check_same f fd) (hC : Cls K C) (n1 : NoAttr K C "length") (e1 : Exc0 K mg "BadBeats" Eb) : FnOk P w K mg base (L2.CX P w) 1 f fd ["one", "other"] (spC K (cSameBad C Eb)) := by
  (refine Lw.fn_okC F sc_check_same (fun _ => rfl) fun ⟨L, A, M, B⟩ cdv A outer s H E Z hk hr tk po => ?_; have hN := (sc_check_same).nd)
  replace hk : L ≠ M := hk
  (focus (refine Lw.ss_norm (Γ' := [_, _]) rfl ?_; refine Lw.ss_cons ?_; refine Lw.sw_if ?_; refine Lw.tw_cmp (Lw.opr_or L2.op_ne (L2.op_neD hr.units)) ?_; refine Lw.ew_fld ?_; refine Lw.ew_var (i := 0) rfl (.inl rfl) rfl ?_; apply Exists.intro; apply Exists.intro; apply Exists.intro; refine And.intro ?_ ?_; rfl; refine And.intro ?_ ?_; assumption; refine And.intro ?_ ?_; assumption; refine And.intro ?_ ?_; rfl; refine Lw.ew_fld ?_; refine Lw.ew_var (i := 1) rfl (.inl rfl) rfl ?_; apply Exists.intro; apply Exists.intro; apply Exists.intro; refine And.intro ?_ ?_; rfl; refine And.intro ?_ ?_; assumption; refine And.intro ?_ ?_; assumption; refine And.intro ?_ ?_; rfl; apply Exists.intro; apply Exists.intro; apply Exists.intro; refine And.intro ?_ ?_; rfl; refine And.intro ?_ ?_; rfl; refine And.intro ?_ ?_; exact Lw.o2_l Lw.o2_neI; refine And.intro ?_ ?_; intro c1; simp only [ne_eq, decide_eq_true_eq] at c1; refine Lw.ss_cons ?_; refine Lw.sw_raise0 rfl tk (by assumption) ?_; refine Exists.intro () ?_; refine And.intro ?_ ?_; refine And.intro ?_ ?_; rfl; exact True.intro; exact True.intro; intro c1; simp only [ne_eq, decide_eq_false_iff_not, Decidable.not_not] at c1; refine Lw.ss_nil ?_; refine Lw.ss_nil ?_; refine Exists.intro () ?_; refine And.intro ?_ ?_; omega; exact True.intro))
def cTurn : Ct (Int × Nat × Nat) := .det
  (ar := fun (L, B, s) => [.im (.int (B : Int)), .im (.int (s : Int)), .im (.int L)])
  (ok := fun (L, B, s) => 1 ≤ L ∧ L ≤ 60 ∧ Blw L B ∧ (s : Int) ≤ L)
  (aft := fun (L, B, s) => [.im (.int (B : Int)), .im (.int (s : Int)), .im (.int L)])
  (out := fun (L, B, s) => .ret (.sc (.int (turnN L B s : Nat))))
theorem ok_turned_bits (hb : Blt mg blts) (F : Fun K "turned_bits" "turned_bits" s_turned_bits f fd) : FnOk P w K mg base (L2.CX P w) 1 f fd ["bits", "shift", "length"] (spC K cTurn) := by
  (refine Lw.fn_okC F sc_turned_bits (fun _ => rfl) fun ⟨L, B, s⟩ cdv A outer s H E Z ⟨hL1, hL2, hB, hs⟩ hr tk po => ?_; have hN := (sc_turned_bits).nd)
  replace hL1 : 1 ≤ L := hL1
  replace hL2 : L ≤ 60 := hL2
  replace hB : Blw L B := hB
  replace hs : (s : Int) ≤ L := hs
  have hlt := blw_lt hB
  have hp : 2 ^ L.toNat ≤ 2 ^ 60 := Nat.pow_le_pow_right (by omega) (by omega)
  have hcp : L2.CPow (B : Int) (s : Int) := ⟨by omega, by omega, by omega⟩
  (focus (refine Lw.ss_norm (Γ' := [_, _, _, _]) rfl ?_; refine Lw.ss_cons ?_; refine Lw.sw_set (i := 3) hN rfl (.inl rfl) ?_; refine Lw.ew_op L2.op_sub ?_; refine Lw.ew_op L2.op_shl ?_; refine Lw.ew_int ?_; refine Lw.ew_var (i := 2) rfl (.inl rfl) rfl ?_; apply Exists.intro; apply Exists.intro; apply Exists.intro; refine And.intro ?_ ?_; rfl; refine And.intro ?_ ?_; rfl; refine And.intro ?_ ?_; refine Lw.o2_shl ?_; (unfold L2.CPow; omega); refine Lw.ew_int ?_; apply Exists.intro; apply Exists.intro; apply Exists.intro; refine And.intro ?_ ?_; rfl; refine And.intro ?_ ?_; rfl; refine And.intro ?_ ?_; exact Lw.o2_sub; refine Lw.ss_norm (Γ' := [_, _, _, _]) rfl ?_; refine Lw.ss_cons ?_; refine Lw.sw_ret ?_; refine Lw.ew_op L2.op_and ?_; refine Lw.ew_op L2.op_or ?_; refine Lw.ew_op L2.op_shl ?_; refine Lw.ew_var (i := 0) rfl (.inl rfl) rfl ?_; refine Lw.ew_var (i := 1) rfl (.inl rfl) rfl ?_; apply Exists.intro; apply Exists.intro; apply Exists.intro; refine And.intro ?_ ?_; rfl; refine And.intro ?_ ?_; rfl; refine And.intro ?_ ?_; refine Lw.o2_shl ?_; assumption; refine Lw.ew_op L2.op_shr ?_; refine Lw.ew_var (i := 0) rfl (.inl rfl) rfl ?_; refine Lw.ew_op L2.op_sub ?_; refine Lw.ew_var (i := 2) rfl (.inl rfl) rfl ?_; refine Lw.ew_var (i := 1) rfl (.inl rfl) rfl ?_; apply Exists.intro; apply Exists.intro; apply Exists.intro; refine And.intro ?_ ?_; rfl; refine And.intro ?_ ?_; rfl; refine And.intro ?_ ?_; exact Lw.o2_sub; apply Exists.intro; apply Exists.intro; apply Exists.intro; refine And.intro ?_ ?_; rfl; refine And.intro ?_ ?_; rfl; refine And.intro ?_ ?_; refine Lw.o2_shr ?_; omega; apply Exists.intro; apply Exists.intro; apply Exists.intro; refine And.intro ?_ ?_; rfl; refine And.intro ?_ ?_; rfl; refine And.intro ?_ ?_; exact Lw.o2_or; refine Lw.ew_var (i := 3) rfl (.inl rfl) rfl ?_; apply Exists.intro; apply Exists.intro; apply Exists.intro; refine And.intro ?_ ?_; rfl; refine And.intro ?_ ?_; rfl; refine And.intro ?_ ?_; exact Lw.o2_and; refine Exists.intro () ?_; refine And.intro ?_ ?_; refine And.intro ?_ ?_; (show _; rotate_left); exact True.intro; exact True.intro; (show _; rotate_left)))
  congr 1
  unfold turnN
  have e1 : (B : Int) * 2 ^ (s : Int).toNat = ((B <<< s : Nat) : Int) := by rw [Nat.shiftLeft_eq, Int.toNat_natCast]; simp
  have e2 : (L - (s : Int)).toNat = L.toNat - s := by omega
  have e3 : (1 * 2 ^ L.toNat - 1 : Int) = ((2 ^ L.toNat - 1 : Nat) : Int) := by
    have : 1 ≤ 2 ^ L.toNat := Nat.one_le_two_pow
    rw [Int.one_mul, Int.ofNat_sub this]; simp
  rw [e1, e2, shr_nat, e3, bitOr_nat, bitAnd_nat]
def cOp2 (C : Addr) (g : Nat → Nat → Nat) : Ct (Int × Nat × Nat) := .det
  (ar := fun (L, A, B) => [.im (beatsD C L A), .im (beatsD C L B)])
  (ok := fun (L, A, B) => 1 ≤ L ∧ L ≤ 60 ∧ Blw L A ∧ Blw L B)
  (aft := fun (L, A, B) => [.im (beatsD C L A), .im (beatsD C L B)])
  (out := fun (L, A, B) => .ret (.sc (beatsD C L (g A B))))
def cOr (C : Addr) := cOp2 C (fun a b => a ||| b)
def cAnd (C : Addr) := cOp2 C (fun a b => a &&& b)
def cXor (C : Addr) := cOp2 C (fun a b => a ^^^ b)
theorem int_or {A B : Nat} : D.int (Builtin.bitOr (A : Int) (B : Int)) = D.int ((A ||| B : Nat) : Int) := by rw [bitOr_nat]
theorem int_and {A B : Nat} : D.int (Builtin.bitAnd (A : Int) (B : Int)) = D.int ((A &&& B : Nat) : Int) := by rw [bitAnd_nat]
theorem int_xor {A B : Nat} : D.int (Builtin.bitXor (A : Int) (B : Int)) = D.int ((A ^^^ B : Nat) : Int) := by rw [bitXor_nat]
theorem ok_or (hb : Blt mg blts) (F : Fun K "__or__" "Beats.__or__" s_Beats_or f fd) (d1 : Def P w K mg base "check_same" 1 (cSameOk C)) (d2 : Def P w K mg base "from_bits" 5 (cFrom C)) (hC : Cls K C) (n1 : NoAttr K C "length") (n2 : NoAttr K C "_bits") : FnOk P w K mg base (L2.CX P w) 6 f fd ["self", "other"] (spC K (cOr C)) := by
  (refine Lw.fn_okC F sc_Beats_or (fun _ => rfl) fun ⟨L, A, B⟩ cdv A outer s H E Z ⟨hL1, hL2, hA, hB⟩ hr tk po => ?_; have hN := (sc_Beats_or).nd)
  replace hL1 : 1 ≤ L := hL1
  replace hL2 : L ≤ 60 := hL2
  replace hA : Blw L A := hA
  replace hB : Blw L B := hB
  (focus (refine Lw.ss_norm (Γ' := [_, _]) rfl ?_; refine Lw.ss_cons ?_; refine Lw.sw_expr ?_; refine Lw.ew_call d1 (hr.mono (by omega)) tk ?_; refine Lw.aw_cons ?_; refine Lw.ew_var (i := 0) rfl (.inl rfl) rfl ?_; refine Lw.aw_cons ?_; refine Lw.ew_var (i := 1) rfl (.inl rfl) rfl ?_; refine Lw.aw_nil ?_; apply Lw.callPost_3; refine And.intro ?_ ?_; refine And.intro ?_ ?_; (with_reducible rfl); refine And.intro ?_ ?_; (with_reducible rfl); exact True.intro; refine And.intro ?_ ?_; rfl; refine And.intro ?_ ?_; exact True.intro; rintro ⟨⟩ -; refine And.intro ?_ ?_; rfl; refine Lw.outP_eq rfl ?_; refine Lw.ss_norm (Γ' := [_, _]) rfl ?_; refine Lw.ss_cons ?_; refine Lw.sw_ret ?_; refine Lw.ew_call d2 hr tk ?_; refine Lw.aw_cons ?_; refine Lw.ew_fld ?_; refine Lw.ew_var (i := 0) rfl (.inl rfl) rfl ?_; apply Exists.intro; apply Exists.intro; apply Exists.intro; refine And.intro ?_ ?_; rfl; refine And.intro ?_ ?_; assumption; refine And.intro ?_ ?_; assumption; refine And.intro ?_ ?_; rfl; refine Lw.aw_cons ?_; refine Lw.ew_op L2.op_or ?_; refine Lw.ew_fld ?_; refine Lw.ew_var (i := 0) rfl (.inl rfl) rfl ?_; apply Exists.intro; apply Exists.intro; apply Exists.intro; refine And.intro ?_ ?_; rfl; refine And.intro ?_ ?_; assumption; refine And.intro ?_ ?_; assumption; refine And.intro ?_ ?_; rfl; refine Lw.ew_fld ?_; refine Lw.ew_var (i := 1) rfl (.inl rfl) rfl ?_; apply Exists.intro; apply Exists.intro; apply Exists.intro; refine And.intro ?_ ?_; rfl; refine And.intro ?_ ?_; assumption; refine And.intro ?_ ?_; assumption; refine And.intro ?_ ?_; rfl; apply Exists.intro; apply Exists.intro; apply Exists.intro; refine And.intro ?_ ?_; rfl; refine And.intro ?_ ?_; rfl; refine And.intro ?_ ?_; exact Lw.o2_or; refine Lw.aw_nil ?_; apply Lw.callPost_2; refine And.intro ?_ ?_; refine And.intro ?_ ?_; (with_reducible rfl); refine And.intro ?_ ?_; exact int_or; exact True.intro; refine And.intro ?_ ?_; rfl; refine And.intro ?_ ?_; refine And.intro ?_ ?_; assumption; refine And.intro ?_ ?_; assumption; (apply blw_or <;> assumption); rintro ⟨⟩ -; refine And.intro ?_ ?_; rfl; refine Lw.outP_eq rfl ?_; refine Exists.intro () ?_; refine And.intro ?_ ?_; refine And.intro ?_ ?_; (with_reducible rfl); exact True.intro; exact True.intro))
theorem ok_and (hb : Blt mg blts) (F : Fun K "__and__" "Beats.__and__" s_Beats_and f fd) (d1 : Def P w K mg base "check_same" 1 (cSameOk C)) (d2 : Def P w K mg base "from_bits" 5 (cFrom C)) (hC : Cls K C) (n1 : NoAttr K C "length") (n2 : NoAttr K C "_bits") : FnOk P w K mg base (L2.CX P w) 6 f fd ["self", "other"] (spC K (cAnd C)) := by
  (refine Lw.fn_okC F sc_Beats_and (fun _ => rfl) fun ⟨L, A, B⟩ cdv A outer s H E Z ⟨hL1, hL2, hA, hB⟩ hr tk po => ?_; have hN := (sc_Beats_and).nd)
  replace hL1 : 1 ≤ L := hL1
  replace hL2 : L ≤ 60 := hL2
  replace hA : Blw L A := hA
  replace hB : Blw L B := hB
  (focus (refine Lw.ss_norm (Γ' := [_, _]) rfl ?_; refine Lw.ss_cons ?_; refine Lw.sw_expr ?_; refine Lw.ew_call d1 (hr.mono (by omega)) tk ?_; refine Lw.aw_cons ?_; refine Lw.ew_var (i := 0) rfl (.inl rfl) rfl ?_; refine Lw.aw_cons ?_; refine Lw.ew_var (i := 1) rfl (.inl rfl) rfl ?_; refine Lw.aw_nil ?_; apply Lw.callPost_3; refine And.intro ?_ ?_; refine And.intro ?_ ?_; (with_reducible rfl); refine And.intro ?_ ?_; (with_reducible rfl); exact True.intro; refine And.intro ?_ ?_; rfl; refine And.intro ?_ ?_; exact True.intro; rintro ⟨⟩ -; refine And.intro ?_ ?_; rfl; refine Lw.outP_eq rfl ?_; refine Lw.ss_norm (Γ' := [_, _]) rfl ?_; refine Lw.ss_cons ?_; refine Lw.sw_ret ?_; refine Lw.ew_call d2 hr tk ?_; refine Lw.aw_cons ?_; refine Lw.ew_fld ?_; refine Lw.ew_var (i := 0) rfl (.inl rfl) rfl ?_; apply Exists.intro; apply Exists.intro; apply Exists.intro; refine And.intro ?_ ?_; rfl; refine And.intro ?_ ?_; assumption; refine And.intro ?_ ?_; assumption; refine And.intro ?_ ?_; rfl; refine Lw.aw_cons ?_; refine Lw.ew_op L2.op_and ?_; refine Lw.ew_fld ?_; refine Lw.ew_var (i := 0) rfl (.inl rfl) rfl ?_; apply Exists.intro; apply Exists.intro; apply Exists.intro; refine And.intro ?_ ?_; rfl; refine And.intro ?_ ?_; assumption; refine And.intro ?_ ?_; assumption; refine And.intro ?_ ?_; rfl; refine Lw.ew_fld ?_; refine Lw.ew_var (i := 1) rfl (.inl rfl) rfl ?_; apply Exists.intro; apply Exists.intro; apply Exists.intro; refine And.intro ?_ ?_; rfl; refine And.intro ?_ ?_; assumption; refine And.intro ?_ ?_; assumption; refine And.intro ?_ ?_; rfl; apply Exists.intro; apply Exists.intro; apply Exists.intro; refine And.intro ?_ ?_; rfl; refine And.intro ?_ ?_; rfl; refine And.intro ?_ ?_; exact Lw.o2_and; refine Lw.aw_nil ?_; apply Lw.callPost_2; refine And.intro ?_ ?_; refine And.intro ?_ ?_; (with_reducible rfl); refine And.intro ?_ ?_; exact int_and; exact True.intro; refine And.intro ?_ ?_; rfl; refine And.intro ?_ ?_; refine And.intro ?_ ?_; assumption; refine And.intro ?_ ?_; assumption; (apply blw_and; assumption); rintro ⟨⟩ -; refine And.intro ?_ ?_; rfl; refine Lw.outP_eq rfl ?_; refine Exists.intro () ?_; refine And.intro ?_ ?_; refine And.intro ?_ ?_; (with_reducible rfl); exact True.intro; exact True.intro))
theorem ok_xor (hb : Blt mg blts) (F : Fun K "__xor__" "Beats.__xor__" s_Beats_xor f fd) (d1 : Def P w K mg base "check_same" 1 (cSameOk C)) (d2 : Def P w K mg base "from_bits" 5 (cFrom C)) (hC : Cls K C) (n1 : NoAttr K C "length") (n2 : NoAttr K C "_bits") : FnOk P w K mg base (L2.CX P w) 6 f fd ["self", "other"] (spC K (cXor C)) := by
  (refine Lw.fn_okC F sc_Beats_xor (fun _ => rfl) fun ⟨L, A, B⟩ cdv A outer s H E Z ⟨hL1, hL2, hA, hB⟩ hr tk po => ?_; have hN := (sc_Beats_xor).nd)
  replace hL1 : 1 ≤ L := hL1
  replace hL2 : L ≤ 60 := hL2
  replace hA : Blw L A := hA
  replace hB : Blw L B := hB
  (focus (refine Lw.ss_norm (Γ' := [_, _]) rfl ?_; refine Lw.ss_cons ?_; refine Lw.sw_expr ?_; refine Lw.ew_call d1 (hr.mono (by omega)) tk ?_; refine Lw.aw_cons ?_; refine Lw.ew_var (i := 0) rfl (.inl rfl) rfl ?_; refine Lw.aw_cons ?_; refine Lw.ew_var (i := 1) rfl (.inl rfl) rfl ?_; refine Lw.aw_nil ?_; apply Lw.callPost_3; refine And.intro ?_ ?_; refine And.intro ?_ ?_; (with_reducible rfl); refine And.intro ?_ ?_; (with_reducible rfl); exact True.intro; refine And.intro ?_ ?_; rfl; refine And.intro ?_ ?_; exact True.intro; rintro ⟨⟩ -; refine And.intro ?_ ?_; rfl; refine Lw.outP_eq rfl ?_; refine Lw.ss_norm (Γ' := [_, _]) rfl ?_; refine Lw.ss_cons ?_; refine Lw.sw_ret ?_; refine Lw.ew_call d2 hr tk ?_; refine Lw.aw_cons ?_; refine Lw.ew_fld ?_; refine Lw.ew_var (i := 0) rfl (.inl rfl) rfl ?_; apply Exists.intro; apply Exists.intro; apply Exists.intro; refine And.intro ?_ ?_; rfl; refine And.intro ?_ ?_; assumption; refine And.intro ?_ ?_; assumption; refine And.intro ?_ ?_; rfl; refine Lw.aw_cons ?_; refine Lw.ew_op L2.op_xor ?_; refine Lw.ew_fld ?_; refine Lw.ew_var (i := 0) rfl (.inl rfl) rfl ?_; apply Exists.intro; apply Exists.intro; apply Exists.intro; refine And.intro ?_ ?_; rfl; refine And.intro ?_ ?_; assumption; refine And.intro ?_ ?_; assumption; refine And.intro ?_ ?_; rfl; refine Lw.ew_fld ?_; refine Lw.ew_var (i := 1) rfl (.inl rfl) rfl ?_; apply Exists.intro; apply Exists.intro; apply Exists.intro; refine And.intro ?_ ?_; rfl; refine And.intro ?_ ?_; assumption; refine And.intro ?_ ?_; assumption; refine And.intro ?_ ?_; rfl; apply Exists.intro; apply Exists.intro; apply Exists.intro; refine And.intro ?_ ?_; rfl; refine And.intro ?_ ?_; rfl; refine And.intro ?_ ?_; exact Lw.o2_xor; refine Lw.aw_nil ?_; apply Lw.callPost_2; refine And.intro ?_ ?_; refine And.intro ?_ ?_; (with_reducible rfl); refine And.intro ?_ ?_; exact int_xor; exact True.intro; refine And.intro ?_ ?_; rfl; refine And.intro ?_ ?_; refine And.intro ?_ ?_; assumption; refine And.intro ?_ ?_; assumption; (apply blw_xor <;> assumption); rintro ⟨⟩ -; refine And.intro ?_ ?_; rfl; refine Lw.outP_eq rfl ?_; refine Exists.intro () ?_; refine And.intro ?_ ?_; refine And.intro ?_ ?_; (with_reducible rfl); exact True.intro; exact True.intro))
/-- refused: rounds of unlike lengths -/
def cOpBad (C Eb : Addr) : Ct (Int × Nat × Int × Nat) := .det
  (ar := fun (L, A, M, B) => [.im (beatsD C L A), .im (beatsD C M B)])
  (ok := fun (L, A, M, B) => L ≠ M ∧ 1 ≤ M ∧ M ≤ 60 ∧ Blw M B)
  (aft := fun (L, A, M, B) => [.im (beatsD C L A), .im (beatsD C M B)])
  (out := fun _ => .exc Eb [])
theorem ok_orB (hb : Blt mg blts) (F : Fun K "__or__" "Beats.__or__" s_Beats_or f fd) (d1 : Def P w K mg base "check_same" 1 (cSameBad C Eb)) : FnOk P w K mg base (L2.CX P w) 6 f fd ["self", "other"] (spC K (cOpBad C Eb)) := by
  (refine Lw.fn_okC F sc_Beats_or (fun _ => rfl) fun ⟨L, A, M, B⟩ cdv A outer s H E Z ⟨hk, hM1, hM2, hB⟩ hr tk po => ?_; have hN := (sc_Beats_or).nd)
  replace hk : L ≠ M := hk
  (focus (refine Lw.ss_norm (Γ' := [_, _]) rfl ?_; refine Lw.ss_cons ?_; refine Lw.sw_expr ?_; refine Lw.ew_call d1 (hr.mono (by omega)) tk ?_; refine Lw.aw_cons ?_; refine Lw.ew_var (i := 0) rfl (.inl rfl) rfl ?_; refine Lw.aw_cons ?_; refine Lw.ew_var (i := 1) rfl (.inl rfl) rfl ?_; refine Lw.aw_nil ?_; apply Lw.callPost_4; refine And.intro ?_ ?_; refine And.intro ?_ ?_; (with_reducible rfl); refine And.intro ?_ ?_; (with_reducible rfl); exact True.intro; refine And.intro ?_ ?_; rfl; refine And.intro ?_ ?_; intro c1; omega; rintro ⟨⟩ -; refine And.intro ?_ ?_; rfl; refine Lw.outP_eq rfl ?_; refine Exists.intro () ?_; refine And.intro ?_ ?_; refine And.intro ?_ ?_; rfl; exact True.intro; exact True.intro))
theorem ok_andB (hb : Blt mg blts) (F : Fun K "__and__" "Beats.__and__" s_Beats_and f fd) (d1 : Def P w K mg base "check_same" 1 (cSameBad C Eb)) : FnOk P w K mg base (L2.CX P w) 6 f fd ["self", "other"] (spC K (cOpBad C Eb)) := by
  (refine Lw.fn_okC F sc_Beats_and (fun _ => rfl) fun ⟨L, A, M, B⟩ cdv A outer s H E Z ⟨hk, hM1, hM2, hB⟩ hr tk po => ?_; have hN := (sc_Beats_and).nd)
  replace hk : L ≠ M := hk
  (focus (refine Lw.ss_norm (Γ' := [_, _]) rfl ?_; refine Lw.ss_cons ?_; refine Lw.sw_expr ?_; refine Lw.ew_call d1 (hr.mono (by omega)) tk ?_; refine Lw.aw_cons ?_; refine Lw.ew_var (i := 0) rfl (.inl rfl) rfl ?_; refine Lw.aw_cons ?_; refine Lw.ew_var (i := 1) rfl (.inl rfl) rfl ?_; refine Lw.aw_nil ?_; apply Lw.callPost_4; refine And.intro ?_ ?_; refine And.intro ?_ ?_; (with_reducible rfl); refine And.intro ?_ ?_; (with_reducible rfl); exact True.intro; refine And.intro ?_ ?_; rfl; refine And.intro ?_ ?_; intro c1; omega; rintro ⟨⟩ -; refine And.intro ?_ ?_; rfl; refine Lw.outP_eq rfl ?_; refine Exists.intro () ?_; refine And.intro ?_ ?_; refine And.intro ?_ ?_; rfl; exact True.intro; exact True.intro))
theorem ok_xorB (hb : Blt mg blts) (F : Fun K "__xor__" "Beats.__xor__" s_Beats_xor f fd) (d1 : Def P w K mg base "check_same" 1 (cSameBad C Eb)) : FnOk P w K mg base (L2.CX P w) 6 f fd ["self", "other"] (spC K (cOpBad C Eb)) := by
  (refine Lw.fn_okC F sc_Beats_xor (fun _ => rfl) fun ⟨L, A, M, B⟩ cdv A outer s H E Z ⟨hk, hM1, hM2, hB⟩ hr tk po => ?_; have hN := (sc_Beats_xor).nd)
  replace hk : L ≠ M := hk
  (focus (refine Lw.ss_norm (Γ' := [_, _]) rfl ?_; refine Lw.ss_cons ?_; refine Lw.sw_expr ?_; refine Lw.ew_call d1 (hr.mono (by omega)) tk ?_; refine Lw.aw_cons ?_; refine Lw.ew_var (i := 0) rfl (.inl rfl) rfl ?_; refine Lw.aw_cons ?_; refine Lw.ew_var (i := 1) rfl (.inl rfl) rfl ?_; refine Lw.aw_nil ?_; apply Lw.callPost_4; refine And.intro ?_ ?_; refine And.intro ?_ ?_; (with_reducible rfl); refine And.intro ?_ ?_; (with_reducible rfl); exact True.intro; refine And.intro ?_ ?_; rfl; refine And.intro ?_ ?_; intro c1; omega; rintro ⟨⟩ -; refine And.intro ?_ ?_; rfl; refine Lw.outP_eq rfl ?_; refine Exists.intro () ?_; refine And.intro ?_ ?_; refine And.intro ?_ ?_; rfl; exact True.intro; exact True.intro))
theorem ok_addB (hb : Blt mg blts) (F : Fun K "__add__" "Beats.__add__" s_Beats_add f fd) (d1 : Def P w K mg base "check_same" 1 (cSameBad C Eb)) : FnOk P w K mg base (L2.CX P w) 6 f fd ["self", "other"] (spC K (cOpBad C Eb)) := by
  (refine Lw.fn_okC F sc_Beats_add (fun _ => rfl) fun ⟨L, A, M, B⟩ cdv A outer s H E Z ⟨hk, hM1, hM2, hB⟩ hr tk po => ?_; have hN := (sc_Beats_add).nd)
  replace hk : L ≠ M := hk
  (focus (refine Lw.ss_norm (Γ' := [_, _, _, _]) rfl ?_; refine Lw.ss_cons ?_; refine Lw.sw_expr ?_; refine Lw.ew_call d1 (hr.mono (by omega)) tk ?_; refine Lw.aw_cons ?_; refine Lw.ew_var (i := 0) rfl (.inl rfl) rfl ?_; refine Lw.aw_cons ?_; refine Lw.ew_var (i := 1) rfl (.inl rfl) rfl ?_; refine Lw.aw_nil ?_; apply Lw.callPost_4; refine And.intro ?_ ?_; refine And.intro ?_ ?_; (with_reducible rfl); refine And.intro ?_ ?_; (with_reducible rfl); exact True.intro; refine And.intro ?_ ?_; rfl; refine And.intro ?_ ?_; intro c1; omega; rintro ⟨⟩ -; refine And.intro ?_ ?_; rfl; refine Lw.outP_eq rfl ?_; refine Exists.intro () ?_; refine And.intro ?_ ?_; refine And.intro ?_ ?_; rfl; exact True.intro; exact True.intro))
def cNeg (C : Addr) : Ct (Int × Nat) := .det
  (ar := fun (L, A) => [.im (beatsD C L A)])
  (ok := fun (L, A) => 1 ≤ L ∧ L ≤ 60 ∧ Blw L A)
  (aft := fun (L, A) => [.im (beatsD C L A)])
  (out := fun (L, A) => .ret (.sc (beatsD C L (negN L A))))
theorem ok_neg (hb : Blt mg blts) (F : Fun K "__neg__" "Beats.__neg__" s_Beats_neg f fd) (d1 : Mkd P w K mg base "Beats" C 3 (cInit C)) (hC : Cls K C) (n1 : NoAttr K C "length") (n3 : NoAttr K C "_beats") : FnOk P w K mg base (L2.CX P w) 5 f fd ["self"] (spC K (cNeg C)) := by
  (refine Lw.fn_okC F sc_Beats_neg (fun _ => rfl) fun ⟨L, A⟩ cdv A outer s H E Z ⟨hL1, hL2, hA⟩ hr tk po => ?_; have hN := (sc_Beats_neg).nd)
  replace hL1 : 1 ≤ L := hL1
  replace hL2 : L ≤ 60 := hL2
  replace hA : Blw L A := hA
  have hl : (bl L A).length ≤ 60 := bl_len60 (by omega)
  (focus (refine Lw.ss_norm (Γ' := [_, _]) rfl ?_; refine Lw.ss_cons ?_; refine Lw.sw_ret ?_; refine Lw.ew_make d1 hr tk ?_; refine Lw.aw_cons ?_; refine Lw.ew_fld ?_; refine Lw.ew_var (i := 0) rfl (.inl rfl) rfl ?_; apply Exists.intro; apply Exists.intro; apply Exists.intro; refine And.intro ?_ ?_; rfl; refine And.intro ?_ ?_; assumption; refine And.intro ?_ ?_; assumption; refine And.intro ?_ ?_; rfl; refine Lw.aw_cons ?_; refine Lw.ew_lc (own := [("beat", 1)]) rfl hN (L2.blkOk_by (N := ["self", "beat"]) (sc := (defScope s_Beats_neg)) (by decide +kernel)) ?_; refine Lw.iw_seq ?_; refine Lw.ew_fld ?_; refine Lw.ew_var (i := 0) rfl (.inl rfl) rfl ?_; apply Exists.intro; apply Exists.intro; apply Exists.intro; refine And.intro ?_ ?_; rfl; refine And.intro ?_ ?_; assumption; refine And.intro ?_ ?_; assumption; refine And.intro ?_ ?_; rfl; apply Exists.intro; refine And.intro ?_ ?_; exact Or.inr rfl; (show _; rotate_left); (show _; rotate_left)))
  refine Lw.lc_intro (fun k acc Γ => acc = (((bl L A).take k).map fun x => -x).map D.int ∧ Γ = [.im (beatsD C L A), .un]) ?_ ?_ ?_
  · (focus (refine And.intro ?_ ?_; rfl; refine Lw.cons_eq rfl ?_; refine Lw.cons_eq rfl ?_; rfl))
  · rintro k acc Γ' hk ⟨rfl, rfl⟩
    simp only [List.length_map] at hk
    (focus (refine And.intro ?_ ?_; apply Lw.noOwn_cons rfl rfl; exact Lw.noOwn_nil; intro Z'; intro s; intro H; intro C; intro cl; intro fp; refine Lw.gc_eq (Lw.getD_mapI (by first | omega | assumption | (simp only [List.length_map, List.length_reverse, List.length_range] at *; omega))) ?_; refine Lw.gc_name (i := 1) hN rfl (.inl rfl) (by decide) ?_; intro s; intro H; intro C; intro cl; intro fp; refine Lw.tc_nil ?_; refine And.intro ?_ ?_; intro c1; simp only at c1; intro s; intro H; intro C; intro cl; intro fp; refine Lw.ew_un L2.un_neg ?_; refine Lw.ew_var (i := 1) rfl (.inl rfl) rfl ?_; apply Exists.intro; apply Exists.intro; refine And.intro ?_ ?_; rfl; refine And.intro ?_ ?_; exact Lw.o1_neg; refine And.intro ?_ ?_; exact True.intro; refine And.intro ?_ ?_; (simp only [List.length_map, List.length_append, List.length_nil, List.length_cons, List.length_set, List.length_replicate, List.length_range, List.length_take, List.length_reverse]; omega); refine And.intro ?_ ?_; (show _; rotate_left); refine Lw.cons_eq rfl ?_; refine Lw.cons_eq rfl ?_; rfl; intro c1; simp only [Bool.true_eq_false] at c1; (show _; rotate_left)))
    exact ints_snoc' hk
  · rintro acc Γ' ⟨rfl, rfl⟩
    simp only [List.length_map, List.take_length]
    (focus (refine Lw.aw_nil ?_; apply Lw.makePost_3; refine And.intro ?_ ?_; refine And.intro ?_ ?_; exact Or.inl rfl; refine And.intro ?_ ?_; (with_reducible rfl); refine And.intro ?_ ?_; rfl; exact True.intro; refine And.intro ?_ ?_; rfl; refine And.intro ?_ ?_; refine And.intro ?_ ?_; exact isSeq_l; refine And.intro ?_ ?_; assumption; assumption; rintro ⟨⟩ -; refine And.intro ?_ ?_; rfl; refine Lw.outP_eq rfl ?_; refine And.intro ?_ ?_; rfl; apply Exists.intro; refine And.intro ?_ ?_; rfl; refine Exists.intro () ?_; refine And.intro ?_ ?_; refine And.intro ?_ ?_; (show _; rotate_left); exact True.intro; exact True.intro; (show _; rotate_left)))
    rw [bitsN_neg hL1]; rfl
def cInv (C : Addr) : Ct (Int × Nat) := .det
  (ar := fun (L, A) => [.im (beatsD C L A)])
  (ok := fun (L, A) => 1 ≤ L ∧ L ≤ 60 ∧ Blw L A)
  (aft := fun (L, A) => [.im (beatsD C L A)])
  (out := fun (L, A) => .ret (.sc (beatsD C L (invN L A))))
theorem ok_invert (hb : Blt mg blts) (F : Fun K "__invert__" "Beats.__invert__" s_Beats_invert f fd) (d1 : Mkd P w K mg base "Beats" C 3 (cInit C)) (d2 : Dun P w K mg base C "__contains__" 1 (spC K (cHas C))) (hC : Cls K C) (n1 : NoAttr K C "length") : FnOk P w K mg base (L2.CX P w) 5 f fd ["self"] (spC K (cInv C)) := by
  (refine Lw.fn_okC F sc_Beats_invert (fun _ => rfl) fun ⟨L, A⟩ cdv A outer s H E Z ⟨hL1, hL2, hA⟩ hr tk po => ?_; have hN := (sc_Beats_invert).nd)
  replace hL1 : 1 ≤ L := hL1
  replace hL2 : L ≤ 60 := hL2
  replace hA : Blw L A := hA
  (focus (refine Lw.ss_norm (Γ' := [_, _]) rfl ?_; refine Lw.ss_cons ?_; refine Lw.sw_ret ?_; refine Lw.ew_make d1 hr tk ?_; refine Lw.aw_cons ?_; refine Lw.ew_fld ?_; refine Lw.ew_var (i := 0) rfl (.inr (.inl rfl)) rfl ?_; apply Exists.intro; apply Exists.intro; apply Exists.intro; refine And.intro ?_ ?_; rfl; refine And.intro ?_ ?_; assumption; refine And.intro ?_ ?_; assumption; refine And.intro ?_ ?_; rfl; refine Lw.aw_cons ?_; refine Lw.ew_lc (own := [("beat", 1)]) rfl hN (L2.blkOk_by (N := ["self", "beat"]) (sc := (defScope s_Beats_invert)) (by decide +kernel)) ?_; refine Lw.iw_rng1 (hb.get (by decide)) ?_; refine Lw.aw_cons ?_; refine Lw.ew_fld ?_; refine Lw.ew_var (i := 0) rfl (.inr (.inl rfl)) rfl ?_; apply Exists.intro; apply Exists.intro; apply Exists.intro; refine And.intro ?_ ?_; rfl; refine And.intro ?_ ?_; assumption; refine And.intro ?_ ?_; assumption; refine And.intro ?_ ?_; rfl; refine Lw.aw_nil ?_; apply Exists.intro; refine And.intro ?_ ?_; apply Lw.views_cons rfl; exact Lw.views_nil; refine And.intro ?_ ?_; refine And.intro ?_ ?_; omega; omega; (show _; rotate_left); (show _; rotate_left)))
  refine Lw.lc_intro (fun k acc Γ => acc = (rangeF (fun i => !A.testBit i) k).map D.int ∧ Γ = [.im (beatsD C L A), .un]) ?_ ?_ ?_
  · exact ⟨by rw [rangeF_zero]; rfl, rfl⟩
  · rintro k acc Γ' hk ⟨rfl, rfl⟩
    have hl := rangeF_len (fun i => !A.testBit i) k
    have e1 := rangeF_succ (fun i => !A.testBit i) k
    have e2 : ((k : Int) % L).toNat = k := by rw [Int.emod_eq_of_lt (by omega) (by omega)]; simp
    (focus (refine And.intro ?_ ?_; apply Lw.noOwn_cons rfl rfl; exact Lw.noOwn_nil; intro Z'; intro s; intro H; intro C; intro cl; intro fp; refine Lw.gc_name (i := 1) hN rfl (.inl rfl) (by decide) ?_; intro s; intro H; intro C; intro cl; intro fp; refine Lw.tc_one ?_; refine Lw.tw_ninOwn (by assumption) (hr.mono (by omega)) ?_; refine Lw.ew_var (i := 1) rfl (.inl rfl) rfl ?_; refine Lw.ew_var (i := 0) rfl (.inr (.inl rfl)) rfl ?_; refine And.intro ?_ ?_; apply Exists.intro; rfl; apply Lw.callPost_3; refine And.intro ?_ ?_; refine And.intro ?_ ?_; (with_reducible rfl); refine And.intro ?_ ?_; (with_reducible rfl); exact True.intro; refine And.intro ?_ ?_; rfl; refine And.intro ?_ ?_; refine And.intro ?_ ?_; assumption; assumption; rintro ⟨⟩ -; refine And.intro ?_ ?_; rfl; refine Lw.outP_eq rfl ?_; apply Exists.intro; refine And.intro ?_ ?_; rfl; refine And.intro ?_ ?_; intro c1; simp only [Bool.not_eq_true'] at c1; intro s; intro H; intro C; intro cl; intro fp; refine Lw.ew_var (i := 1) rfl (.inl rfl) rfl ?_; refine And.intro ?_ ?_; exact True.intro; refine And.intro ?_ ?_; (simp only [List.length_map, List.length_append, List.length_nil, List.length_cons, List.length_set, List.length_replicate, List.length_range, List.length_take, List.length_reverse]; omega); refine And.intro ?_ ?_; (show _; rotate_left); refine Lw.cons_eq rfl ?_; refine Lw.cons_eq rfl ?_; rfl; intro c1; simp only [Bool.not_eq_false'] at c1; refine And.intro ?_ ?_; exact True.intro; refine And.intro ?_ ?_; (show _; rotate_left); refine Lw.cons_eq rfl ?_; refine Lw.cons_eq rfl ?_; rfl; (show _; rotate_left); (show _; rotate_left)))
    all_goals rw [e2] at c1
    · rw [e1, if_pos (by simpa using c1), List.map_append]; rfl
    · rw [e1, if_neg (by simpa using c1)]
  · rintro acc Γ' ⟨rfl, rfl⟩
    (focus (refine Lw.aw_nil ?_; apply Lw.makePost_3; refine And.intro ?_ ?_; refine And.intro ?_ ?_; exact Or.inl rfl; refine And.intro ?_ ?_; (with_reducible rfl); refine And.intro ?_ ?_; rfl; exact True.intro; refine And.intro ?_ ?_; rfl; refine And.intro ?_ ?_; refine And.intro ?_ ?_; exact isSeq_l; refine And.intro ?_ ?_; assumption; assumption; rintro ⟨⟩ -; refine And.intro ?_ ?_; rfl; refine Lw.outP_eq rfl ?_; refine And.intro ?_ ?_; rfl; apply Exists.intro; refine And.intro ?_ ?_; rfl; refine Exists.intro () ?_; refine And.intro ?_ ?_; refine And.intro ?_ ?_; (show _; rotate_left); exact True.intro; exact True.intro; (show _; rotate_left)))
    rw [bitsN_rangeF]; rfl
def cAdd (C : Addr) : Ct (Int × Nat × Nat) := .det
  (ar := fun (L, A, B) => [.im (beatsD C L A), .im (beatsD C L B)])
  (ok := fun (L, A, B) => 1 ≤ L ∧ L ≤ 60 ∧ Blw L A ∧ Blw L B)
  (aft := fun (L, A, B) => [.im (beatsD C L A), .im (beatsD C L B)])
  (out := fun (L, A, B) => .ret (.sc (beatsD C L (addN L A B))))
theorem ok_add (hb : Blt mg blts) (F : Fun K "__add__" "Beats.__add__" s_Beats_add f fd) (d1 : Def P w K mg base "check_same" 1 (cSameOk C)) (d2 : Def P w K mg base "from_bits" 5 (cFrom C)) (d3 : Def P w K mg base "turned_bits" 1 cTurn) (hC : Cls K C) (n1 : NoAttr K C "length") (n2 : NoAttr K C "_bits") (n3 : NoAttr K C "_beats") : FnOk P w K mg base (L2.CX P w) 6 f fd ["self", "other"] (spC K (cAdd C)) := by
  (refine Lw.fn_okC F sc_Beats_add (fun _ => rfl) fun ⟨L, A, B⟩ cdv A outer s H E Z ⟨hL1, hL2, hA, hB⟩ hr tk po => ?_; have hN := (sc_Beats_add).nd)
  replace hL1 : 1 ≤ L := hL1
  replace hL2 : L ≤ 60 := hL2
  replace hA : Blw L A := hA
  replace hB : Blw L B := hB
  (focus (refine Lw.ss_norm (Γ' := [_, _, _, _]) rfl ?_; refine Lw.ss_cons ?_; refine Lw.sw_expr ?_; refine Lw.ew_call d1 (hr.mono (by omega)) tk ?_; refine Lw.aw_cons ?_; refine Lw.ew_var (i := 0) rfl (.inl rfl) rfl ?_; refine Lw.aw_cons ?_; refine Lw.ew_var (i := 1) rfl (.inl rfl) rfl ?_; refine Lw.aw_nil ?_; apply Lw.callPost_3; refine And.intro ?_ ?_; refine And.intro ?_ ?_; (with_reducible rfl); refine And.intro ?_ ?_; (with_reducible rfl); exact True.intro; refine And.intro ?_ ?_; rfl; refine And.intro ?_ ?_; exact True.intro; rintro ⟨⟩ -; refine And.intro ?_ ?_; rfl; refine Lw.outP_eq rfl ?_; refine Lw.ss_norm (Γ' := [_, _, _, _]) rfl ?_; refine Lw.ss_cons ?_; refine Lw.sw_set (i := 2) hN rfl (.inl rfl) ?_; refine Lw.ew_int ?_; refine Lw.ss_norm (Γ' := [_, _, _, _]) rfl ?_; refine Lw.ss_cons ?_; refine Lw.sw_forF po rfl ?_; refine Lw.iw_seq ?_; refine Lw.ew_fld ?_; refine Lw.ew_var (i := 0) rfl (.inl rfl) rfl ?_; apply Exists.intro; apply Exists.intro; apply Exists.intro; refine And.intro ?_ ?_; rfl; refine And.intro ?_ ?_; assumption; refine And.intro ?_ ?_; assumption; refine And.intro ?_ ?_; rfl; apply Exists.intro; refine And.intro ?_ ?_; exact Or.inr rfl; (show _; rotate_left); (show _; rotate_left)))
  refine Lw.for_intro (fun k Γ => Γ = [.im (beatsD C L A), .im (beatsD C L B), .im (.int (sumN L B ((bl L A).take k) : Nat)), .un]) ?_ ?_ ?_
  · (focus (apply Exists.intro; refine And.intro ?_ ?_; rfl; refine Lw.fgt_eq rfl ?_; refine Lw.fgt_eq rfl ?_; refine Lw.fgt_eq rfl ?_; refine Lw.fgt_un ?_; exact Lw.fgt_nil))
  · rintro k Γ' hk rfl
    simp only [List.length_map] at hk
    obtain ⟨h0, h1, h2⟩ := getD_bl hk
    (focus (refine Lw.gw_eq (Lw.getD_mapI (by first | omega | assumption | (simp only [List.length_map, List.length_reverse, List.length_range] at *; omega))) ?_; refine Lw.gw_name (i := 3) hN rfl (.inl rfl) ?_; refine Lw.ss_norm (Γ' := [_, _, _, _]) rfl ?_; refine Lw.ss_cons ?_; refine Lw.sw_set (i := 2) hN rfl (.inl rfl) ?_; refine Lw.ew_op L2.op_or ?_; refine Lw.ew_var (i := 2) rfl (.inl rfl) rfl ?_; refine Lw.ew_call d3 (hr.mono (by omega)) tk ?_; refine Lw.aw_cons ?_; refine Lw.ew_fld ?_; refine Lw.ew_var (i := 1) rfl (.inl rfl) rfl ?_; apply Exists.intro; apply Exists.intro; apply Exists.intro; refine And.intro ?_ ?_; rfl; refine And.intro ?_ ?_; assumption; refine And.intro ?_ ?_; assumption; refine And.intro ?_ ?_; rfl; refine Lw.aw_cons ?_; refine Lw.ew_var (i := 3) rfl (.inl rfl) rfl ?_; refine Lw.aw_cons ?_; refine Lw.ew_fld ?_; refine Lw.ew_var (i := 0) rfl (.inl rfl) rfl ?_; apply Exists.intro; apply Exists.intro; apply Exists.intro; refine And.intro ?_ ?_; rfl; refine And.intro ?_ ?_; assumption; refine And.intro ?_ ?_; assumption; refine And.intro ?_ ?_; rfl; refine Lw.aw_nil ?_; apply Lw.callPost_3; refine And.intro ?_ ?_; refine And.intro ?_ ?_; (with_reducible rfl); refine And.intro ?_ ?_; exact int_nat (by assumption); refine And.intro ?_ ?_; (with_reducible rfl); exact True.intro; refine And.intro ?_ ?_; rfl; refine And.intro ?_ ?_; refine And.intro ?_ ?_; assumption; refine And.intro ?_ ?_; assumption; refine And.intro ?_ ?_; assumption; omega; rintro ⟨⟩ -; refine And.intro ?_ ?_; rfl; refine Lw.outP_eq rfl ?_; apply Exists.intro; apply Exists.intro; apply Exists.intro; refine And.intro ?_ ?_; rfl; refine And.intro ?_ ?_; rfl; refine And.intro ?_ ?_; exact Lw.o2_or; refine Lw.ss_norm (Γ' := [_, _, _, _]) rfl ?_; refine Lw.ss_nil ?_; apply Exists.intro; refine And.intro ?_ ?_; rfl; refine Lw.fgt_eq rfl ?_; refine Lw.fgt_eq rfl ?_; refine Lw.fgt_eq (Lw.sim_eq ?_) ?_; (show _; rotate_left); refine Lw.fgt_un ?_; exact Lw.fgt_nil; (show _; rotate_left)))
    rw [take_snoc hk, sumN_snoc, ← bitOr_nat]
  · rintro Γ' rfl
    simp only [List.length_map, List.take_length]
    rw [sumN_add hL1 hB]
    (focus (refine Lw.ss_cons ?_; refine Lw.sw_ret ?_; refine Lw.ew_call d2 hr tk ?_; refine Lw.aw_cons ?_; refine Lw.ew_fld ?_; refine Lw.ew_var (i := 0) rfl (.inl rfl) rfl ?_; apply Exists.intro; apply Exists.intro; apply Exists.intro; refine And.intro ?_ ?_; rfl; refine And.intro ?_ ?_; assumption; refine And.intro ?_ ?_; assumption; refine And.intro ?_ ?_; rfl; refine Lw.aw_cons ?_; refine Lw.ew_var (i := 2) rfl (.inl rfl) rfl ?_; refine Lw.aw_nil ?_; apply Lw.callPost_2; refine And.intro ?_ ?_; refine And.intro ?_ ?_; (with_reducible rfl); refine And.intro ?_ ?_; (with_reducible rfl); exact True.intro; refine And.intro ?_ ?_; rfl; refine And.intro ?_ ?_; refine And.intro ?_ ?_; assumption; refine And.intro ?_ ?_; assumption; exact addN_blw (by assumption); rintro ⟨⟩ -; refine And.intro ?_ ?_; rfl; refine Lw.outP_eq rfl ?_; refine Exists.intro () ?_; refine And.intro ?_ ?_; refine And.intro ?_ ?_; (with_reducible rfl); exact True.intro; exact True.intro))
end
section
variable {P : Program} {w : World} {K : PySem.W.Frag} {mg : Str → Option Value} {base : Heap} {f : Addr} {fd : FuncData} {C Eb : Addr}
def cSub (C : Addr) : Ct (Int × Nat × Nat) := .det
  (ar := fun (L, A, B) => [.im (beatsD C L A), .im (beatsD C L B)])
  (ok := fun (L, A, B) => 1 ≤ L ∧ L ≤ 60 ∧ Blw L A ∧ Blw L B)
  (aft := fun (L, A, B) => [.im (beatsD C L A), .im (beatsD C L B)])
  (out := fun (L, A, B) => .ret (.sc (beatsD C L (addN L A (negN L B)))))
theorem ok_sub (hb : Blt mg blts) (F : Fun K "__sub__" "Beats.__sub__" s_Beats_sub f fd) (d1 : Dun P w K mg base C "__add__" 6 (spC K (cAdd C))) (d2 : Dun P w K mg base C "__neg__" 5 (spC K (cNeg C))) (sf : PySem.W.selfFirst K C = true) : FnOk P w K mg base (L2.CX P w) 7 f fd ["self", "other"] (spC K (cSub C)) := by
  (refine Lw.fn_okC F sc_Beats_sub (fun _ => rfl) fun ⟨L, A, B⟩ cdv A outer s H E Z ⟨hL1, hL2, hA, hB⟩ hr tk po => ?_; have hN := (sc_Beats_sub).nd)
  replace hL1 : 1 ≤ L := hL1
  replace hL2 : L ≤ 60 := hL2
  replace hA : Blw L A := hA
  replace hB : Blw L B := hB
  (focus (refine Lw.ss_norm (Γ' := [_, _]) rfl ?_; refine Lw.ss_cons ?_; refine Lw.sw_ret ?_; refine Lw.ew_binO d1 hr tk (by assumption) rfl ?_; refine Lw.ew_var (i := 0) rfl (.inl rfl) rfl ?_; refine Lw.ew_negO (by assumption) (hr.mono (by omega)) tk ?_; refine Lw.ew_var (i := 1) rfl (.inl rfl) rfl ?_; refine And.intro ?_ ?_; apply Exists.intro; rfl; apply Lw.callPost_2; refine And.intro ?_ ?_; refine And.intro ?_ ?_; (with_reducible rfl); exact True.intro; refine And.intro ?_ ?_; rfl; refine And.intro ?_ ?_; refine And.intro ?_ ?_; assumption; refine And.intro ?_ ?_; assumption; assumption; rintro ⟨⟩ -; refine And.intro ?_ ?_; rfl; refine Lw.outP_eq rfl ?_; refine And.intro ?_ ?_; apply Exists.intro; rfl; refine And.intro ?_ ?_; apply Exists.intro; rfl; apply Lw.callPost_3; refine And.intro ?_ ?_; refine And.intro ?_ ?_; (with_reducible rfl); refine And.intro ?_ ?_; (with_reducible rfl); exact True.intro; refine And.intro ?_ ?_; rfl; refine And.intro ?_ ?_; refine And.intro ?_ ?_; assumption; refine And.intro ?_ ?_; assumption; refine And.intro ?_ ?_; assumption; exact negN_blw (by assumption); rintro ⟨⟩ -; refine And.intro ?_ ?_; rfl; refine Lw.outP_eq rfl ?_; refine Exists.intro () ?_; refine And.intro ?_ ?_; refine And.intro ?_ ?_; (with_reducible rfl); exact True.intro; exact True.intro))
theorem ok_subB (hb : Blt mg blts) (F : Fun K "__sub__" "Beats.__sub__" s_Beats_sub f fd) (d1 : Dun P w K mg base C "__add__" 6 (spC K (cOpBad C Eb))) (d2 : Dun P w K mg base C "__neg__" 5 (spC K (cNeg C))) (sf : PySem.W.selfFirst K C = true) : FnOk P w K mg base (L2.CX P w) 7 f fd ["self", "other"] (spC K (cOpBad C Eb)) := by
  (refine Lw.fn_okC F sc_Beats_sub (fun _ => rfl) fun ⟨L, A, M, B⟩ cdv A outer s H E Z ⟨hk, hM1, hM2, hB⟩ hr tk po => ?_; have hN := (sc_Beats_sub).nd)
  replace hk : L ≠ M := hk
  replace hM1 : 1 ≤ M := hM1
  replace hM2 : M ≤ 60 := hM2
  replace hB : Blw M B := hB
  (focus (refine Lw.ss_norm (Γ' := [_, _]) rfl ?_; refine Lw.ss_cons ?_; refine Lw.sw_ret ?_; refine Lw.ew_binO d1 hr tk (by assumption) rfl ?_; refine Lw.ew_var (i := 0) rfl (.inl rfl) rfl ?_; refine Lw.ew_negO (by assumption) (hr.mono (by omega)) tk ?_; refine Lw.ew_var (i := 1) rfl (.inl rfl) rfl ?_; refine And.intro ?_ ?_; apply Exists.intro; rfl; apply Lw.callPost_2; refine And.intro ?_ ?_; refine And.intro ?_ ?_; (with_reducible rfl); exact True.intro; refine And.intro ?_ ?_; rfl; refine And.intro ?_ ?_; refine And.intro ?_ ?_; assumption; refine And.intro ?_ ?_; assumption; assumption; rintro ⟨⟩ -; refine And.intro ?_ ?_; rfl; refine Lw.outP_eq rfl ?_; refine And.intro ?_ ?_; apply Exists.intro; rfl; refine And.intro ?_ ?_; apply Exists.intro; rfl; apply Lw.callPost_4; refine And.intro ?_ ?_; refine And.intro ?_ ?_; (with_reducible rfl); refine And.intro ?_ ?_; (with_reducible rfl); exact True.intro; refine And.intro ?_ ?_; rfl; refine And.intro ?_ ?_; refine And.intro ?_ ?_; assumption; refine And.intro ?_ ?_; assumption; refine And.intro ?_ ?_; assumption; exact negN_blw (by assumption); rintro ⟨⟩ -; refine And.intro ?_ ?_; rfl; refine Lw.outP_eq rfl ?_; refine Exists.intro () ?_; refine And.intro ?_ ?_; refine And.intro ?_ ?_; rfl; exact True.intro; exact True.intro))
def cWithin (C : Addr) : Ct (Int × Nat × Nat) := .det
  (ar := fun (L, A, B) => [.im (beatsD C L A), .im (beatsD C L B)])
  (ok := fun _ => True)
  (aft := fun (L, A, B) => [.im (beatsD C L A), .im (beatsD C L B)])
  (out := fun (L, A, B) => .ret (.sc (.bl (decide (A &&& B = A)))))
theorem ok_within (hb : Blt mg blts) (F : Fun K "within" "Beats.within" s_Beats_within f fd) (d1 : Def P w K mg base "check_same" 1 (cSameOk C)) (hC : Cls K C) (n2 : NoAttr K C "_bits") : FnOk P w K mg base (L2.CX P w) 2 f fd ["self", "other"] (spC K (cWithin C)) := by
  (refine Lw.fn_okC F sc_Beats_within (fun _ => rfl) fun ⟨L, A, B⟩ cdv A outer s H E Z hk hr tk po => ?_; have hN := (sc_Beats_within).nd)
  (focus (refine Lw.ss_norm (Γ' := [_, _]) rfl ?_; refine Lw.ss_cons ?_; refine Lw.sw_expr ?_; refine Lw.ew_call d1 hr tk ?_; refine Lw.aw_cons ?_; refine Lw.ew_var (i := 0) rfl (.inl rfl) rfl ?_; refine Lw.aw_cons ?_; refine Lw.ew_var (i := 1) rfl (.inl rfl) rfl ?_; refine Lw.aw_nil ?_; apply Lw.callPost_3; refine And.intro ?_ ?_; refine And.intro ?_ ?_; (with_reducible rfl); refine And.intro ?_ ?_; (with_reducible rfl); exact True.intro; refine And.intro ?_ ?_; rfl; refine And.intro ?_ ?_; exact True.intro; rintro ⟨⟩ -; refine And.intro ?_ ?_; rfl; refine Lw.outP_eq rfl ?_; refine Lw.ss_norm (Γ' := [_, _]) rfl ?_; refine Lw.ss_cons ?_; refine Lw.sw_ret ?_; refine Lw.ew_cmp (Lw.opr_or L2.op_eq (L2.op_eqD hr.units)) ?_; refine Lw.ew_op L2.op_and ?_; refine Lw.ew_fld ?_; refine Lw.ew_var (i := 0) rfl (.inl rfl) rfl ?_; apply Exists.intro; apply Exists.intro; apply Exists.intro; refine And.intro ?_ ?_; rfl; refine And.intro ?_ ?_; assumption; refine And.intro ?_ ?_; assumption; refine And.intro ?_ ?_; rfl; refine Lw.ew_fld ?_; refine Lw.ew_var (i := 1) rfl (.inl rfl) rfl ?_; apply Exists.intro; apply Exists.intro; apply Exists.intro; refine And.intro ?_ ?_; rfl; refine And.intro ?_ ?_; assumption; refine And.intro ?_ ?_; assumption; refine And.intro ?_ ?_; rfl; apply Exists.intro; apply Exists.intro; apply Exists.intro; refine And.intro ?_ ?_; rfl; refine And.intro ?_ ?_; rfl; refine And.intro ?_ ?_; exact Lw.o2_and; refine Lw.ew_fld ?_; refine Lw.ew_var (i := 0) rfl (.inl rfl) rfl ?_; apply Exists.intro; apply Exists.intro; apply Exists.intro; refine And.intro ?_ ?_; rfl; refine And.intro ?_ ?_; assumption; refine And.intro ?_ ?_; assumption; refine And.intro ?_ ?_; rfl; apply Exists.intro; apply Exists.intro; apply Exists.intro; refine And.intro ?_ ?_; rfl; refine And.intro ?_ ?_; rfl; refine And.intro ?_ ?_; exact Lw.o2_l Lw.o2_eqI; refine Exists.intro () ?_; refine And.intro ?_ ?_; refine And.intro ?_ ?_; (show _; rotate_left); exact True.intro; exact True.intro; (show _; rotate_left)))
  congr 1
  rw [bitAnd_nat, decide_eq_decide]; omega
theorem ok_withinB (hb : Blt mg blts) (F : Fun K "within" "Beats.within" s_Beats_within f fd) (d1 : Def P w K mg base "check_same" 1 (cSameBad C Eb)) : FnOk P w K mg base (L2.CX P w) 2 f fd ["self", "other"] (spC K (cOpBad C Eb)) := by
  (refine Lw.fn_okC F sc_Beats_within (fun _ => rfl) fun ⟨L, A, M, B⟩ cdv A outer s H E Z ⟨hk, hM1, hM2, hB⟩ hr tk po => ?_; have hN := (sc_Beats_within).nd)
  replace hk : L ≠ M := hk
  (focus (refine Lw.ss_norm (Γ' := [_, _]) rfl ?_; refine Lw.ss_cons ?_; refine Lw.sw_expr ?_; refine Lw.ew_call d1 hr tk ?_; refine Lw.aw_cons ?_; refine Lw.ew_var (i := 0) rfl (.inl rfl) rfl ?_; refine Lw.aw_cons ?_; refine Lw.ew_var (i := 1) rfl (.inl rfl) rfl ?_; refine Lw.aw_nil ?_; apply Lw.callPost_4; refine And.intro ?_ ?_; refine And.intro ?_ ?_; (with_reducible rfl); refine And.intro ?_ ?_; (with_reducible rfl); exact True.intro; refine And.intro ?_ ?_; rfl; refine And.intro ?_ ?_; intro c1; omega; rintro ⟨⟩ -; refine And.intro ?_ ?_; rfl; refine Lw.outP_eq rfl ?_; refine Exists.intro () ?_; refine And.intro ?_ ?_; refine And.intro ?_ ?_; rfl; exact True.intro; exact True.intro))
end
section
variable {P : Program} {w : World} {K : PySem.W.Frag} {mg : Str → Option Value} {base : Heap} {f : Addr} {fd : FuncData}
/-- different beats of a round -/
def Bts (L : Int) (ns : List Int) : Prop := ns.Nodup ∧ (∀ x ∈ ns, 0 ≤ x ∧ x < L) ∧ (ns.length : Int) ≤ L
theorem bts_range {L : Int} (hL : 0 ≤ L) : Bts L (rngI 0 L) := by
  unfold Bts rngI
  refine ⟨?_, ?_, ?_⟩
  · rw [List.nodup_iff_pairwise_ne, List.pairwise_map]
    exact List.pairwise_lt_range.imp fun h => by omega
  · intro x hx
    obtain ⟨k, hk, rfl⟩ := List.mem_map.mp hx
    rw [List.mem_range] at hk; omega
  · rw [List.length_map, List.length_range]; omega
theorem bts_turn {L b : Int} (hL : 1 ≤ L) {n : Nat} (hn : (n : Int) ≤ L) : Bts L ((List.range n).map fun (i : Nat) => (b + (i : Int)) % L) := by
  unfold Bts
  refine ⟨?_, ?_, ?_⟩
  · rw [List.nodup_iff_pairwise_ne, List.pairwise_map]
    refine List.Pairwise.imp_of_mem (R := fun (x y : Nat) => x < y) (fun {x y} hx hy h e => ?_) List.pairwise_lt_range
    rw [List.mem_range] at hx hy
    have h1 : (L : Int) ∣ (b + (y : Int)) - (b + (x : Int)) := emod_iff.mp e.symm
    rw [show (b + (y : Int)) - (b + (x : Int)) = (y : Int) - x by omega] at h1
    have := Int.le_of_dvd (by omega) h1
    omega
  · intro x hx
    obtain ⟨k, hk, rfl⟩ := List.mem_map.mp hx
    exact ⟨Int.emod_nonneg _ (by omega), Int.emod_lt_of_pos _ (by omega)⟩
  · rw [List.length_map, List.length_range]; exact hn
/-- different numbers from 0 on, below k -/
@[irreducible] def Bel (k : Nat) (ns : List Int) : Prop := ns.Nodup ∧ (∀ x ∈ ns, 0 ≤ x ∧ x < (k : Int)) ∧ ns.length ≤ k
theorem bel_nil : Bel 0 [] := by unfold Bel; exact ⟨by simp, by simp, by simp⟩
theorem bel_keep {k : Nat} {ns : List Int} (h : Bel k ns) : Bel (k + 1) ns := by
  unfold Bel at h ⊢
  exact ⟨h.1, fun x hx => by have := h.2.1 x hx; omega, by have := h.2.2; omega⟩
theorem bel_snoc {k : Nat} {ns : List Int} (h : Bel k ns) : Bel (k + 1) (ns ++ [(k : Int)]) := by
  unfold Bel at h ⊢
  obtain ⟨h1, h2, h3⟩ := h
  refine ⟨?_, fun x hx => ?_, by rw [List.length_append, List.length_singleton]; omega⟩
  · rw [List.nodup_append]
    refine ⟨h1, by simp, fun a ha b hb e => ?_⟩
    rw [List.mem_singleton] at hb
    have := h2 a ha; omega
  · rcases List.mem_append.mp hx with hx | hx
    · have := h2 x hx; omega
    · rw [List.mem_singleton] at hx; omega
theorem bel_len {k : Nat} {ns : List Int} (h : Bel k ns) : ns.length ≤ k := by unfold Bel at h; exact h.2.2
def cMembers : Ct (Hand × Int) where
  β := List Int × Hand
  ar := fun (h, l) => [.mu (hd4 h), .im (.int l)]
  ok := fun (h, l) => 1 ≤ l ∧ l ≤ 60
  rel := fun (h, l) (ns, _) => Bts l ns
  aft := fun (h, l) (ns, h') => [.mu (hd4 h'), .im (.int l)]
  out := fun _ (ns, h') => .ret (.nw (.lst (ns.map D.int)))
theorem ok_members (hb : Blt mg blts) (F : Fun K "_law_members" "_law_members" s_law_members f fd) (d1 : Def P w K mg base "_law_take" 1 cTake) : FnOk P w K mg base (L2.CX P w) 2 f fd ["hand", "length"] (spC K cMembers) := by
  (refine Lw.fn_okC F sc_law_members (fun _ => rfl) fun ⟨h, L⟩ cdv A outer s H E Z ⟨hk1, hk2⟩ hr tk po => ?_; have hN := (sc_law_members).nd)
  replace hk1 : 1 ≤ L := hk1
  replace hk2 : L ≤ 60 := hk2
  (focus (refine Lw.ss_norm (Γ' := [_, _, _, _, _, _, _]) rfl ?_; refine Lw.ss_cons ?_; refine Lw.sw_set (i := 2) hN rfl (.inl rfl) ?_; refine Lw.ew_call d1 hr tk ?_; refine Lw.aw_cons ?_; refine Lw.ew_var (i := 0) rfl (.inr (.inl rfl)) rfl ?_; refine Lw.aw_cons ?_; refine Lw.ew_int ?_; refine Lw.aw_nil ?_; apply Lw.callPost_2; refine And.intro ?_ ?_; refine And.intro ?_ ?_; exact Or.inr ⟨_, rfl⟩; refine And.intro ?_ ?_; (with_reducible rfl); exact True.intro; refine And.intro ?_ ?_; rfl; refine And.intro ?_ ?_; refine And.intro ?_ ?_; omega; omega; rintro ⟨v1, v2⟩; rintro ⟨c1, c2⟩; refine And.intro ?_ ?_; rfl; refine Lw.outP_eq rfl ?_; refine Lw.ss_norm (Γ' := [_, _, _, _, _, _, _]) rfl ?_; refine Lw.ss_cons ?_; refine Lw.sw_if ?_; refine Lw.tw_cmp (Lw.opr_or L2.op_eq (L2.op_eqD hr.units)) ?_; refine Lw.ew_var (i := 2) rfl (.inl rfl) rfl ?_; refine Lw.ew_int ?_; apply Exists.intro; apply Exists.intro; apply Exists.intro; refine And.intro ?_ ?_; rfl; refine And.intro ?_ ?_; rfl; refine And.intro ?_ ?_; exact Lw.o2_l Lw.o2_eqI; refine And.intro ?_ ?_; intro c3; simp only [decide_eq_true_eq] at c3; refine Lw.ss_cons ?_; refine Lw.sw_ret ?_; refine Lw.ew_lst ?_; refine Lw.aw_nil ?_; refine And.intro ?_ ?_; decide; apply Lw.ex_2; refine And.intro ?_ ?_; refine And.intro ?_ ?_; (apply Or.inl; apply Lw.new_eq); exact Lw.lst_nil; refine And.intro ?_ ?_; rfl; exact True.intro; dsimp only [Tst.cMembers, Lw.Ct.det]; (show _; rotate_left); intro c3; simp only [decide_eq_false_iff_not] at c3; refine Lw.ss_nil ?_; refine Lw.ss_cons ?_; refine Lw.sw_if ?_; refine Lw.tw_cmp (Lw.opr_or L2.op_eq (L2.op_eqD hr.units)) ?_; refine Lw.ew_var (i := 2) rfl (.inl rfl) rfl ?_; refine Lw.ew_int ?_; apply Exists.intro; apply Exists.intro; apply Exists.intro; refine And.intro ?_ ?_; rfl; refine And.intro ?_ ?_; rfl; refine And.intro ?_ ?_; exact Lw.o2_l Lw.o2_eqI; refine And.intro ?_ ?_; intro c4; simp only [decide_eq_true_eq] at c4; refine Lw.ss_cons ?_; refine Lw.sw_ret ?_; refine Lw.ew_listRng1 rfl (hb.get (by decide)) (hb.get (by decide)) ?_; refine Lw.aw_cons ?_; refine Lw.ew_var (i := 1) rfl (.inr (.inl rfl)) rfl ?_; refine Lw.aw_nil ?_; apply Exists.intro; refine And.intro ?_ ?_; apply Lw.views_cons rfl; exact Lw.views_nil; refine And.intro ?_ ?_; refine And.intro ?_ ?_; omega; omega; apply Lw.ex_2; refine And.intro ?_ ?_; refine And.intro ?_ ?_; (apply Or.inl; apply Lw.new_eq); (with_reducible rfl); refine And.intro ?_ ?_; rfl; exact True.intro; dsimp only [Tst.cMembers, Lw.Ct.det]; (show _; rotate_left); intro c4; simp only [decide_eq_false_iff_not] at c4; refine Lw.ss_nil ?_; refine Lw.ss_cons ?_; refine Lw.sw_if ?_; refine Lw.tw_cmp (Lw.opr_or L2.op_eq (L2.op_eqD hr.units)) ?_; refine Lw.ew_var (i := 2) rfl (.inl rfl) rfl ?_; refine Lw.ew_int ?_; apply Exists.intro; apply Exists.intro; apply Exists.intro; refine And.intro ?_ ?_; rfl; refine And.intro ?_ ?_; rfl; refine And.intro ?_ ?_; exact Lw.o2_l Lw.o2_eqI; refine And.intro ?_ ?_; intro c5; simp only [decide_eq_true_eq] at c5; refine Lw.ss_cons ?_; refine Lw.sw_ret ?_; refine Lw.ew_lst ?_; refine Lw.aw_cons ?_; refine Lw.ew_call d1 hr tk ?_; refine Lw.aw_cons ?_; refine Lw.ew_var (i := 0) rfl (.inr (.inl rfl)) rfl ?_; refine Lw.aw_cons ?_; refine Lw.ew_var (i := 1) rfl (.inr (.inl rfl)) rfl ?_; refine Lw.aw_nil ?_; apply Lw.callPost_2; refine And.intro ?_ ?_; refine And.intro ?_ ?_; exact Or.inr ⟨_, rfl⟩; refine And.intro ?_ ?_; (with_reducible rfl); exact True.intro; refine And.intro ?_ ?_; rfl; refine And.intro ?_ ?_; refine And.intro ?_ ?_; assumption; omega; rintro ⟨v3, v4⟩; rintro ⟨c6, c7⟩; refine And.intro ?_ ?_; rfl; refine Lw.outP_eq rfl ?_; refine Lw.aw_nil ?_; refine And.intro ?_ ?_; (simp only [List.length_map, List.length_append, List.length_nil, List.length_cons, List.length_set, List.length_replicate, List.length_range, List.length_take, List.length_reverse]; omega); apply Lw.ex_2; refine And.intro ?_ ?_; refine And.intro ?_ ?_; (apply Or.inl; apply Lw.new_eq); exact Lw.lst_1; refine And.intro ?_ ?_; rfl; exact True.intro; dsimp only [Tst.cMembers, Lw.Ct.det]; (show _; rotate_left); intro c5; simp only [decide_eq_false_iff_not] at c5; refine Lw.ss_nil ?_; refine Lw.ss_cons ?_; refine Lw.sw_if ?_; refine Lw.tw_cmp L2.op_lt ?_; refine Lw.ew_var (i := 2) rfl (.inl rfl) rfl ?_; refine Lw.ew_int ?_; apply Exists.intro; apply Exists.intro; apply Exists.intro; refine And.intro ?_ ?_; rfl; refine And.intro ?_ ?_; rfl; refine And.intro ?_ ?_; exact Lw.o2_lt; refine And.intro ?_ ?_; intro c6; simp only [decide_eq_true_eq] at c6; refine Lw.ss_cons ?_; refine Lw.sw_set (i := 3) hN rfl (.inr rfl) ?_; refine Lw.ew_call d1 hr tk ?_; refine Lw.aw_cons ?_; refine Lw.ew_var (i := 0) rfl (.inr (.inl rfl)) rfl ?_; refine Lw.aw_cons ?_; refine Lw.ew_var (i := 1) rfl (.inr (.inl rfl)) rfl ?_; refine Lw.aw_nil ?_; apply Lw.callPost_2; refine And.intro ?_ ?_; refine And.intro ?_ ?_; exact Or.inr ⟨_, rfl⟩; refine And.intro ?_ ?_; (with_reducible rfl); exact True.intro; refine And.intro ?_ ?_; rfl; refine And.intro ?_ ?_; refine And.intro ?_ ?_; assumption; omega; rintro ⟨v3, v4⟩; rintro ⟨c7, c8⟩; refine And.intro ?_ ?_; rfl; refine Lw.outP_eq rfl ?_; refine Lw.ss_norm (Γ' := [_, _, _, _, _, _, _]) rfl ?_; refine Lw.ss_cons ?_; refine Lw.sw_set (i := 4) hN rfl (.inl rfl) ?_; refine Lw.ew_op (Lw.opr_or L2.op_add L2.op_cat) ?_; refine Lw.ew_int ?_; refine Lw.ew_call d1 hr tk ?_; refine Lw.aw_cons ?_; refine Lw.ew_var (i := 0) rfl (.inr (.inl rfl)) rfl ?_; refine Lw.aw_cons ?_; refine Lw.ew_var (i := 1) rfl (.inr (.inl rfl)) rfl ?_; refine Lw.aw_nil ?_; apply Lw.callPost_2; refine And.intro ?_ ?_; refine And.intro ?_ ?_; exact Or.inr ⟨_, rfl⟩; refine And.intro ?_ ?_; (with_reducible rfl); exact True.intro; refine And.intro ?_ ?_; rfl; refine And.intro ?_ ?_; refine And.intro ?_ ?_; assumption; omega; rintro ⟨v5, v6⟩; rintro ⟨c9, c10⟩; refine And.intro ?_ ?_; rfl; refine Lw.outP_eq rfl ?_; apply Exists.intro; apply Exists.intro; apply Exists.intro; refine And.intro ?_ ?_; rfl; refine And.intro ?_ ?_; rfl; refine And.intro ?_ ?_; exact Lw.o2_l Lw.o2_add; refine Lw.ss_norm (Γ' := [_, _, _, _, _, _, _]) rfl ?_; refine Lw.ss_cons ?_; refine Lw.sw_ret ?_; refine Lw.ew_lc (own := [("k", 5)]) rfl hN (L2.blkOk_by (N := ["hand", "length", "way", "begin", "count", "k", "x"]) (sc := (defScope s_law_members)) (by decide +kernel)) ?_; refine Lw.iw_rng1 (hb.get (by decide)) ?_; refine Lw.aw_cons ?_; refine Lw.ew_var (i := 4) rfl (.inl rfl) rfl ?_; refine Lw.aw_nil ?_; apply Exists.intro; refine And.intro ?_ ?_; apply Lw.views_cons rfl; exact Lw.views_nil; refine And.intro ?_ ?_; refine And.intro ?_ ?_; omega; omega; (show _; rotate_left); intro c6; simp only [decide_eq_false_iff_not] at c6; refine Lw.ss_nil ?_; refine Lw.ss_cons ?_; refine Lw.sw_ret ?_; refine Lw.ew_lc (own := [("x", 6)]) rfl hN (L2.blkOk_by (N := ["hand", "length", "way", "begin", "count", "k", "x"]) (sc := (defScope s_law_members)) (by decide +kernel)) ?_; refine Lw.iw_rng1 (hb.get (by decide)) ?_; refine Lw.aw_cons ?_; refine Lw.ew_var (i := 1) rfl (.inr (.inl rfl)) rfl ?_; refine Lw.aw_nil ?_; apply Exists.intro; refine And.intro ?_ ?_; apply Lw.views_cons rfl; exact Lw.views_nil; refine And.intro ?_ ?_; refine And.intro ?_ ?_; omega; omega; (show _; rotate_left); (show _; rotate_left); (show _; rotate_left); (show _; rotate_left); (show _; rotate_left); (show _; rotate_left)))
  · unfold Bts; exact ⟨by simp, by simp, by simp; omega⟩
  · exact bts_range (by omega)
  · unfold Bts; exact ⟨by simp, by simp; omega, by simp; omega⟩
  · refine Lw.lc_intro (fun k acc Γ => acc = ((List.range k).map fun (i : Nat) => (v3 + (i : Int)) % L).map D.int ∧ Γ = [.pw 0 (hd4 v6), .im (.int L), .im (.int v1), .im (.int v3), .im (.int (1 + v5)), .un, .un]) ?_ ?_ ?_
    · (focus (refine And.intro ?_ ?_; rfl; refine Lw.cons_eq rfl ?_; refine Lw.cons_eq rfl ?_; refine Lw.cons_eq rfl ?_; refine Lw.cons_eq rfl ?_; refine Lw.cons_eq rfl ?_; refine Lw.cons_eq rfl ?_; refine Lw.cons_eq rfl ?_; rfl))
    · rintro k acc Γ' hk ⟨rfl, rfl⟩
      (focus (refine And.intro ?_ ?_; apply Lw.noOwn_cons rfl rfl; exact Lw.noOwn_nil; intro Z'; intro s; intro H; intro C; intro cl; intro fp; refine Lw.gc_name (i := 5) hN rfl (.inl rfl) (by decide) ?_; intro s; intro H; intro C; intro cl; intro fp; refine Lw.tc_nil ?_; refine And.intro ?_ ?_; intro c11; simp only at c11; intro s; intro H; intro C; intro cl; intro fp; refine Lw.ew_op L2.op_mod ?_; refine Lw.ew_callTy L2.call_int1 rfl (hb.get (by decide)) Lw.bb_int ?_; refine Lw.aw_cons ?_; refine Lw.ew_op (Lw.opr_or L2.op_add L2.op_cat) ?_; refine Lw.ew_var (i := 3) rfl (.inr (.inl rfl)) rfl ?_; refine Lw.ew_var (i := 5) rfl (.inl rfl) rfl ?_; apply Exists.intro; apply Exists.intro; apply Exists.intro; refine And.intro ?_ ?_; rfl; refine And.intro ?_ ?_; rfl; refine And.intro ?_ ?_; exact Lw.o2_l Lw.o2_add; refine Lw.aw_nil ?_; apply Exists.intro; apply Exists.intro; refine And.intro ?_ ?_; apply Lw.views_cons rfl; exact Lw.views_nil; refine And.intro ?_ ?_; exact Lw.on_int; refine Lw.ew_var (i := 1) rfl (.inr (.inl rfl)) rfl ?_; apply Exists.intro; apply Exists.intro; apply Exists.intro; refine And.intro ?_ ?_; rfl; refine And.intro ?_ ?_; rfl; refine And.intro ?_ ?_; refine Lw.o2_mod ?_; assumption; refine And.intro ?_ ?_; refine And.intro ?_ ?_; apply Exists.intro; rfl; exact True.intro; refine And.intro ?_ ?_; (simp only [List.length_map, List.length_append, List.length_nil, List.length_cons, List.length_set, List.length_replicate, List.length_range, List.length_take, List.length_reverse]; omega); refine And.intro ?_ ?_; (show _; rotate_left); refine Lw.cons_eq rfl ?_; refine Lw.cons_eq rfl ?_; refine Lw.cons_eq rfl ?_; refine Lw.cons_eq rfl ?_; refine Lw.cons_eq rfl ?_; refine Lw.cons_eq rfl ?_; refine Lw.cons_eq rfl ?_; rfl; intro c11; simp only [Bool.true_eq_false] at c11; (show _; rotate_left)))
      exact range_snoc
    · rintro acc Γ' ⟨rfl, rfl⟩
      (focus (apply Lw.ex_2; refine And.intro ?_ ?_; refine And.intro ?_ ?_; (apply Or.inl; apply Lw.new_eq); (with_reducible rfl); refine And.intro ?_ ?_; rfl; exact True.intro; dsimp only [Tst.cMembers, Lw.Ct.det]; (show _; rotate_left); (show _; rotate_left)))
      exact bts_turn hk1 (by omega)
  · refine Lw.lc_intro (fun k acc Γ => ∃ (h : Hand) (ns : List Int), Γ = [.pw 0 (hd4 h), .im (.int L), .im (.int v1), .un, .un, .un, .un] ∧ acc = ns.map D.int ∧ Bel k ns) ?_ ?_ ?_
    · (focus (apply Exists.intro; apply Exists.intro; refine And.intro ?_ ?_; refine Lw.cons_eq rfl ?_; refine Lw.cons_eq rfl ?_; refine Lw.cons_eq rfl ?_; refine Lw.cons_eq rfl ?_; refine Lw.cons_eq rfl ?_; refine Lw.cons_eq rfl ?_; refine Lw.cons_eq rfl ?_; rfl; refine And.intro ?_ ?_; exact Lw.nil_map; exact bel_nil))
    · rintro k acc Γ' hk ⟨h, ns, rfl, rfl, h1⟩
      have h3 := bel_len h1
      (focus (refine And.intro ?_ ?_; apply Lw.noOwn_cons rfl rfl; exact Lw.noOwn_nil; intro Z'; intro s; intro H; intro C; intro cl; intro fp; refine Lw.gc_name (i := 6) hN rfl (.inl rfl) (by decide) ?_; intro s; intro H; intro C; intro cl; intro fp; refine Lw.tc_one ?_; refine Lw.tw_cmp (Lw.opr_or L2.op_eq (L2.op_eqD hr.units)) ?_; refine Lw.ew_call d1 hr Lw.takes_none ?_; refine Lw.aw_cons ?_; refine Lw.ew_var (i := 0) rfl (.inr (.inl rfl)) rfl ?_; refine Lw.aw_cons ?_; refine Lw.ew_int ?_; refine Lw.aw_nil ?_; apply Lw.callPost_2; refine And.intro ?_ ?_; refine And.intro ?_ ?_; exact Or.inr ⟨_, rfl⟩; refine And.intro ?_ ?_; (with_reducible rfl); exact True.intro; refine And.intro ?_ ?_; rfl; refine And.intro ?_ ?_; refine And.intro ?_ ?_; omega; omega; rintro ⟨v3, v4⟩; rintro ⟨c7, c8⟩; refine And.intro ?_ ?_; rfl; refine Lw.outP_eq rfl ?_; refine Lw.ew_int ?_; apply Exists.intro; apply Exists.intro; apply Exists.intro; refine And.intro ?_ ?_; rfl; refine And.intro ?_ ?_; rfl; refine And.intro ?_ ?_; exact Lw.o2_l Lw.o2_eqI; refine And.intro ?_ ?_; intro c9; simp only [decide_eq_true_eq] at c9; intro s; intro H; intro C; intro cl; intro fp; refine Lw.ew_var (i := 6) rfl (.inl rfl) rfl ?_; refine And.intro ?_ ?_; refine And.intro ?_ ?_; apply Exists.intro; rfl; exact True.intro; refine And.intro ?_ ?_; (simp only [List.length_map, List.length_append, List.length_nil, List.length_cons, List.length_set, List.length_replicate, List.length_range, List.length_take, List.length_reverse]; omega); apply Exists.intro; apply Exists.intro; refine And.intro ?_ ?_; refine Lw.cons_eq rfl ?_; refine Lw.cons_eq rfl ?_; refine Lw.cons_eq rfl ?_; refine Lw.cons_eq rfl ?_; refine Lw.cons_eq rfl ?_; refine Lw.cons_eq rfl ?_; refine Lw.cons_eq rfl ?_; rfl; refine And.intro ?_ ?_; exact Lw.snoc_map; exact bel_snoc (by assumption); intro c9; simp only [decide_eq_false_iff_not] at c9; refine And.intro ?_ ?_; refine And.intro ?_ ?_; apply Exists.intro; rfl; exact True.intro; apply Exists.intro; apply Exists.intro; refine And.intro ?_ ?_; refine Lw.cons_eq rfl ?_; refine Lw.cons_eq rfl ?_; refine Lw.cons_eq rfl ?_; refine Lw.cons_eq rfl ?_; refine Lw.cons_eq rfl ?_; refine Lw.cons_eq rfl ?_; refine Lw.cons_eq rfl ?_; rfl; refine And.intro ?_ ?_; (with_reducible rfl); exact bel_keep (by assumption)))
    · rintro acc Γ' ⟨h, ns, rfl, rfl, h1⟩
      have h3 := bel_len h1
      (focus (apply Lw.ex_2; refine And.intro ?_ ?_; refine And.intro ?_ ?_; (apply Or.inl; apply Lw.new_eq); (with_reducible rfl); refine And.intro ?_ ?_; rfl; exact True.intro; dsimp only [Tst.cMembers, Lw.Ct.det]; (show _; rotate_left); (show _; rotate_left)))
      unfold Bel at h1
      unfold Bts
      exact ⟨h1.1, fun x hx => by have := h1.2.1 x hx; omega, by omega⟩
end
section
variable {P : Program} {w : World} {K : PySem.W.Frag} {mg : Str → Option Value} {base : Heap} {f : Addr} {fd : FuncData} {C Eb : Addr}
def cJoinedBad (C Eb : Addr) : Ct (Str × Int × Nat × Int × Nat) := .det
  (ar := fun (s, L, A, M, B) => [.im (.str s), .im (beatsD C L A), .im (beatsD C M B)])
  (ok := fun (s, L, A, M, B) => L ≠ M ∧ 1 ≤ M ∧ M ≤ 60 ∧ Blw M B)
  (aft := fun (s, L, A, M, B) => [.im (.str s), .im (beatsD C L A), .im (beatsD C M B)])
  (out := fun _ => .exc Eb [])
theorem ok_joinedB (hb : Blt mg blts) (F : Fun K "_law_joined" "_law_joined" s_law_joined f fd) (d1 : Dun P w K mg base C "__or__" 6 (spC K (cOpBad C Eb))) (d2 : Dun P w K mg base C "__and__" 6 (spC K (cOpBad C Eb))) (d3 : Dun P w K mg base C "__xor__" 6 (spC K (cOpBad C Eb))) (d4 : Dun P w K mg base C "__add__" 6 (spC K (cOpBad C Eb))) (d5 : Dun P w K mg base C "__sub__" 7 (spC K (cOpBad C Eb))) (d6 : Mtd P w K mg base C "within" 2 (cOpBad C Eb)) (sf : PySem.W.selfFirst K C = true) : FnOk P w K mg base (L2.CX P w) 8 f fd ["sign", "one", "other"] (spC K (cJoinedBad C Eb)) := by
  (refine Lw.fn_okC F sc_law_joined (fun _ => rfl) fun ⟨s, L, A, M, B⟩ cdv A outer s H E Z ⟨hk, hM1, hM2, hB⟩ hr tk po => ?_; have hN := (sc_law_joined).nd)
  replace hk : L ≠ M := hk
  replace hM1 : 1 ≤ M := hM1
  replace hM2 : M ≤ 60 := hM2
  replace hB : Blw M B := hB
  (focus (refine Lw.ss_norm (Γ' := [_, _, _]) rfl ?_; refine Lw.ss_cons ?_; refine Lw.sw_if ?_; refine Lw.tw_cmp (Lw.opr_or L2.op_eq (L2.op_eqD hr.units)) ?_; refine Lw.ew_var (i := 0) rfl (.inl rfl) rfl ?_; refine Lw.ew_str ?_; apply Exists.intro; apply Exists.intro; apply Exists.intro; refine And.intro ?_ ?_; rfl; refine And.intro ?_ ?_; rfl; refine And.intro ?_ ?_; exact Lw.o2_l Lw.o2_eqS; refine And.intro ?_ ?_; intro c1; simp only [decide_eq_true_eq] at c1; refine Lw.ss_cons ?_; refine Lw.sw_ret ?_; refine Lw.ew_binO d1 (hr.mono (by omega)) tk (by assumption) rfl ?_; refine Lw.ew_var (i := 1) rfl (.inl rfl) rfl ?_; refine Lw.ew_var (i := 2) rfl (.inl rfl) rfl ?_; refine And.intro ?_ ?_; apply Exists.intro; rfl; refine And.intro ?_ ?_; apply Exists.intro; rfl; apply Lw.callPost_4; refine And.intro ?_ ?_; refine And.intro ?_ ?_; (with_reducible rfl); refine And.intro ?_ ?_; (with_reducible rfl); exact True.intro; refine And.intro ?_ ?_; rfl; refine And.intro ?_ ?_; refine And.intro ?_ ?_; assumption; refine And.intro ?_ ?_; assumption; refine And.intro ?_ ?_; assumption; assumption; rintro ⟨⟩ -; refine And.intro ?_ ?_; rfl; refine Lw.outP_eq rfl ?_; refine Exists.intro () ?_; refine And.intro ?_ ?_; refine And.intro ?_ ?_; rfl; exact True.intro; exact True.intro; intro c1; simp only [decide_eq_false_iff_not] at c1; refine Lw.ss_nil ?_; refine Lw.ss_cons ?_; refine Lw.sw_if ?_; refine Lw.tw_cmp (Lw.opr_or L2.op_eq (L2.op_eqD hr.units)) ?_; refine Lw.ew_var (i := 0) rfl (.inl rfl) rfl ?_; refine Lw.ew_str ?_; apply Exists.intro; apply Exists.intro; apply Exists.intro; refine And.intro ?_ ?_; rfl; refine And.intro ?_ ?_; rfl; refine And.intro ?_ ?_; exact Lw.o2_l Lw.o2_eqS; refine And.intro ?_ ?_; intro c2; simp only [decide_eq_true_eq] at c2; refine Lw.ss_cons ?_; refine Lw.sw_ret ?_; refine Lw.ew_binO d2 (hr.mono (by omega)) tk (by assumption) rfl ?_; refine Lw.ew_var (i := 1) rfl (.inl rfl) rfl ?_; refine Lw.ew_var (i := 2) rfl (.inl rfl) rfl ?_; refine And.intro ?_ ?_; apply Exists.intro; rfl; refine And.intro ?_ ?_; apply Exists.intro; rfl; apply Lw.callPost_4; refine And.intro ?_ ?_; refine And.intro ?_ ?_; (with_reducible rfl); refine And.intro ?_ ?_; (with_reducible rfl); exact True.intro; refine And.intro ?_ ?_; rfl; refine And.intro ?_ ?_; refine And.intro ?_ ?_; assumption; refine And.intro ?_ ?_; assumption; refine And.intro ?_ ?_; assumption; assumption; rintro ⟨⟩ -; refine And.intro ?_ ?_; rfl; refine Lw.outP_eq rfl ?_; refine Exists.intro () ?_; refine And.intro ?_ ?_; refine And.intro ?_ ?_; rfl; exact True.intro; exact True.intro; intro c2; simp only [decide_eq_false_iff_not] at c2; refine Lw.ss_nil ?_; refine Lw.ss_cons ?_; refine Lw.sw_if ?_; refine Lw.tw_cmp (Lw.opr_or L2.op_eq (L2.op_eqD hr.units)) ?_; refine Lw.ew_var (i := 0) rfl (.inl rfl) rfl ?_; refine Lw.ew_str ?_; apply Exists.intro; apply Exists.intro; apply Exists.intro; refine And.intro ?_ ?_; rfl; refine And.intro ?_ ?_; rfl; refine And.intro ?_ ?_; exact Lw.o2_l Lw.o2_eqS; refine And.intro ?_ ?_; intro c3; simp only [decide_eq_true_eq] at c3; refine Lw.ss_cons ?_; refine Lw.sw_ret ?_; refine Lw.ew_binO d3 (hr.mono (by omega)) tk (by assumption) rfl ?_; refine Lw.ew_var (i := 1) rfl (.inl rfl) rfl ?_; refine Lw.ew_var (i := 2) rfl (.inl rfl) rfl ?_; refine And.intro ?_ ?_; apply Exists.intro; rfl; refine And.intro ?_ ?_; apply Exists.intro; rfl; apply Lw.callPost_4; refine And.intro ?_ ?_; refine And.intro ?_ ?_; (with_reducible rfl); refine And.intro ?_ ?_; (with_reducible rfl); exact True.intro; refine And.intro ?_ ?_; rfl; refine And.intro ?_ ?_; refine And.intro ?_ ?_; assumption; refine And.intro ?_ ?_; assumption; refine And.intro ?_ ?_; assumption; assumption; rintro ⟨⟩ -; refine And.intro ?_ ?_; rfl; refine Lw.outP_eq rfl ?_; refine Exists.intro () ?_; refine And.intro ?_ ?_; refine And.intro ?_ ?_; rfl; exact True.intro; exact True.intro; intro c3; simp only [decide_eq_false_iff_not] at c3; refine Lw.ss_nil ?_; refine Lw.ss_cons ?_; refine Lw.sw_if ?_; refine Lw.tw_cmp (Lw.opr_or L2.op_eq (L2.op_eqD hr.units)) ?_; refine Lw.ew_var (i := 0) rfl (.inl rfl) rfl ?_; refine Lw.ew_str ?_; apply Exists.intro; apply Exists.intro; apply Exists.intro; refine And.intro ?_ ?_; rfl; refine And.intro ?_ ?_; rfl; refine And.intro ?_ ?_; exact Lw.o2_l Lw.o2_eqS; refine And.intro ?_ ?_; intro c4; simp only [decide_eq_true_eq] at c4; refine Lw.ss_cons ?_; refine Lw.sw_ret ?_; refine Lw.ew_binO d4 (hr.mono (by omega)) tk (by assumption) rfl ?_; refine Lw.ew_var (i := 1) rfl (.inl rfl) rfl ?_; refine Lw.ew_var (i := 2) rfl (.inl rfl) rfl ?_; refine And.intro ?_ ?_; apply Exists.intro; rfl; refine And.intro ?_ ?_; apply Exists.intro; rfl; apply Lw.callPost_4; refine And.intro ?_ ?_; refine And.intro ?_ ?_; (with_reducible rfl); refine And.intro ?_ ?_; (with_reducible rfl); exact True.intro; refine And.intro ?_ ?_; rfl; refine And.intro ?_ ?_; refine And.intro ?_ ?_; assumption; refine And.intro ?_ ?_; assumption; refine And.intro ?_ ?_; assumption; assumption; rintro ⟨⟩ -; refine And.intro ?_ ?_; rfl; refine Lw.outP_eq rfl ?_; refine Exists.intro () ?_; refine And.intro ?_ ?_; refine And.intro ?_ ?_; rfl; exact True.intro; exact True.intro; intro c4; simp only [decide_eq_false_iff_not] at c4; refine Lw.ss_nil ?_; refine Lw.ss_cons ?_; refine Lw.sw_if ?_; refine Lw.tw_cmp (Lw.opr_or L2.op_eq (L2.op_eqD hr.units)) ?_; refine Lw.ew_var (i := 0) rfl (.inl rfl) rfl ?_; refine Lw.ew_str ?_; apply Exists.intro; apply Exists.intro; apply Exists.intro; refine And.intro ?_ ?_; rfl; refine And.intro ?_ ?_; rfl; refine And.intro ?_ ?_; exact Lw.o2_l Lw.o2_eqS; refine And.intro ?_ ?_; intro c5; simp only [decide_eq_true_eq] at c5; refine Lw.ss_cons ?_; refine Lw.sw_ret ?_; refine Lw.ew_binO d5 hr tk (by assumption) rfl ?_; refine Lw.ew_var (i := 1) rfl (.inl rfl) rfl ?_; refine Lw.ew_var (i := 2) rfl (.inl rfl) rfl ?_; refine And.intro ?_ ?_; apply Exists.intro; rfl; refine And.intro ?_ ?_; apply Exists.intro; rfl; apply Lw.callPost_4; refine And.intro ?_ ?_; refine And.intro ?_ ?_; (with_reducible rfl); refine And.intro ?_ ?_; (with_reducible rfl); exact True.intro; refine And.intro ?_ ?_; rfl; refine And.intro ?_ ?_; refine And.intro ?_ ?_; assumption; refine And.intro ?_ ?_; assumption; refine And.intro ?_ ?_; assumption; assumption; rintro ⟨⟩ -; refine And.intro ?_ ?_; rfl; refine Lw.outP_eq rfl ?_; refine Exists.intro () ?_; refine And.intro ?_ ?_; refine And.intro ?_ ?_; rfl; exact True.intro; exact True.intro; intro c5; simp only [decide_eq_false_iff_not] at c5; refine Lw.ss_nil ?_; refine Lw.ss_cons ?_; refine Lw.sw_ret ?_; refine Lw.ew_meth d6 (hr.mono (by omega)) tk ?_; refine Lw.ew_var (i := 1) rfl (.inl rfl) rfl ?_; refine And.intro ?_ ?_; apply Exists.intro; refine And.intro ?_ ?_; rfl; rfl; refine Lw.aw_cons ?_; refine Lw.ew_var (i := 2) rfl (.inl rfl) rfl ?_; refine Lw.aw_nil ?_; apply Lw.callPost_4; refine And.intro ?_ ?_; refine And.intro ?_ ?_; (with_reducible rfl); refine And.intro ?_ ?_; (with_reducible rfl); exact True.intro; refine And.intro ?_ ?_; rfl; refine And.intro ?_ ?_; refine And.intro ?_ ?_; assumption; refine And.intro ?_ ?_; assumption; refine And.intro ?_ ?_; assumption; assumption; rintro ⟨⟩ -; refine And.intro ?_ ?_; rfl; refine Lw.outP_eq rfl ?_; refine Exists.intro () ?_; refine And.intro ?_ ?_; refine And.intro ?_ ?_; rfl; exact True.intro; exact True.intro))
def cRefused (C : Addr) : Ct (Str × Int × Nat × Int × Nat) := .det
  (ar := fun (s, L, A, M, B) => [.im (.str s), .im (beatsD C L A), .im (beatsD C M B)])
  (ok := fun (s, L, A, M, B) => L ≠ M ∧ 1 ≤ L ∧ L ≤ 60 ∧ Blw L A ∧ 1 ≤ M ∧ M ≤ 60 ∧ Blw M B)
  (aft := fun (s, L, A, M, B) => [.im (.str s), .im (beatsD C L A), .im (beatsD C M B)])
  (out := fun _ => .ret (.sc (.bl true)))
theorem ok_refused {Lb Na Ns : Addr} (hb : Blt mg blts) (F : Fun K "_law_refused" "_law_refused" s_law_refused f fd) (d1 : Def P w K mg base "_law_joined" 8 (cJoinedBad C Eb)) (eC : ExcC K Eb) (eK : ErrK K Eb Lb Na Ns)
    (z1 : mg "BadBeats" = some (.ref Eb)) (z2 : mg "LightsError" = some (.ref Lb)) (z3 : mg "BadNet" = some (.ref Na)) (z4 : mg "NotCrowd" = some (.ref Ns)) : FnOk P w K mg base (L2.CX P w) 9 f fd ["sign", "one", "other"] (spC K (cRefused C)) := by
  (refine Lw.fn_okN F sc_law_refused (fun _ => rfl) fun ⟨s, L, A, M, B⟩ cdv A outer s H E Z ⟨hk, hL1, hL2, hA, hM1, hM2, hB⟩ hr tk po => ?_; have hN := (sc_law_refused).nd)
  replace hk : L ≠ M := hk
  replace hL1 : 1 ≤ L := hL1
  replace hL2 : L ≤ 60 := hL2
  replace hA : Blw L A := hA
  replace hM1 : 1 ≤ M := hM1
  replace hM2 : M ≤ 60 := hM2
  replace hB : Blw M B := hB
  obtain ⟨x0, x1, k1, k2, k3, k4⟩ := eK
  (focus (refine Lw.ns_norm (Γ' := [_, _, _, _, _, _]) rfl ?_; refine Lw.ns_cons ?_; refine Lw.nw_of ?_; refine Lw.sw_set (i := 3) hN rfl (.inl rfl) ?_; refine Lw.ew_lst ?_; refine Lw.aw_nil ?_; refine And.intro ?_ ?_; decide; refine Lw.ns_norm (Γ' := [_, _, _, _, _, _]) rfl ?_; refine Lw.ns_cons ?_; (show _; rotate_left); (show _; rotate_left)))
  (refine Lw.nw_try_as (i := 4) (Ex' := (fun D fs Γ => D = Eb ∧ fs = [] ∧ Γ = [.im (.str s), .im (beatsD C L A), .im (beatsD C M B), .ow (.lst []), .un, .un])) rfl rfl hN rfl rfl ⟨rfl, by decide, .inl z1⟩ tk (fun pn xe tk po => ?_) (fun De fse Γe hx => ?_))
  · (focus (refine Lw.ns_cons ?_; refine Lw.nw_of ?_; refine Lw.sw_expr ?_; refine Lw.ew_call d1 hr tk ?_; refine Lw.aw_cons ?_; refine Lw.ew_var (i := 0) rfl (.inl rfl) rfl ?_; refine Lw.aw_cons ?_; refine Lw.ew_var (i := 1) rfl (.inl rfl) rfl ?_; refine Lw.aw_cons ?_; refine Lw.ew_var (i := 2) rfl (.inl rfl) rfl ?_; refine Lw.aw_nil ?_; apply Lw.callPost_5; refine And.intro ?_ ?_; refine And.intro ?_ ?_; (with_reducible rfl); refine And.intro ?_ ?_; (with_reducible rfl); refine And.intro ?_ ?_; (with_reducible rfl); exact True.intro; refine And.intro ?_ ?_; rfl; refine And.intro ?_ ?_; refine And.intro ?_ ?_; assumption; refine And.intro ?_ ?_; assumption; refine And.intro ?_ ?_; assumption; assumption; rintro ⟨⟩ -; refine And.intro ?_ ?_; rfl; refine Lw.outP_eq rfl ?_; refine And.intro ?_ ?_; (with_reducible rfl); refine And.intro ?_ ?_; (with_reducible rfl); refine Lw.cons_eq rfl ?_; refine Lw.cons_eq rfl ?_; refine Lw.cons_eq rfl ?_; refine Lw.cons_eq rfl ?_; refine Lw.cons_eq rfl ?_; refine Lw.cons_eq rfl ?_; rfl))
  · obtain ⟨rfl, rfl, rfl⟩ := hx
    refine ⟨true, by assumption, fun _ => ⟨rfl, fun a oe pn hz hv => ?_⟩, fun h => nomatch h⟩
    (focus (refine Lw.ns_norm (Γ' := [_, _, _, _, _, _]) rfl ?_; refine Lw.ns_cons ?_; refine Lw.nw_of ?_; refine Lw.sw_set (i := 3) hN rfl (.inl rfl) ?_; refine Lw.ew_lst ?_; refine Lw.aw_cons ?_; refine Lw.ew_isE (by assumption) hz hv (hb.get (by decide)) ?_; refine Lw.aw_cons ?_; refine Lw.ew_var (i := 4) rfl (.inl rfl) rfl ?_; refine Lw.aw_cons ?_; refine Lw.ew_ty (n := "ValueError") (hb.get (by decide)) Lw.bb_ValueError ?_; refine Lw.aw_nil ?_; apply Exists.intro; apply Exists.intro; apply Exists.intro; apply Exists.intro; refine And.intro ?_ ?_; rfl; refine And.intro ?_ ?_; rfl; refine And.intro ?_ ?_; rfl; refine And.intro ?_ ?_; assumption; refine Lw.aw_cons ?_; refine Lw.ew_isE (by assumption) hz hv (hb.get (by decide)) ?_; refine Lw.aw_cons ?_; refine Lw.ew_var (i := 4) rfl (.inl rfl) rfl ?_; refine Lw.aw_cons ?_; refine Lw.ew_cls (by assumption) ?_; refine Lw.aw_nil ?_; apply Exists.intro; apply Exists.intro; apply Exists.intro; apply Exists.intro; refine And.intro ?_ ?_; rfl; refine And.intro ?_ ?_; rfl; refine And.intro ?_ ?_; rfl; refine And.intro ?_ ?_; assumption; refine Lw.aw_cons ?_; refine Lw.ew_isE (by assumption) hz hv (hb.get (by decide)) ?_; refine Lw.aw_cons ?_; refine Lw.ew_var (i := 4) rfl (.inl rfl) rfl ?_; refine Lw.aw_cons ?_; refine Lw.ew_cls (by assumption) ?_; refine Lw.aw_nil ?_; apply Exists.intro; apply Exists.intro; apply Exists.intro; apply Exists.intro; refine And.intro ?_ ?_; rfl; refine And.intro ?_ ?_; rfl; refine And.intro ?_ ?_; rfl; refine And.intro ?_ ?_; assumption; refine Lw.aw_cons ?_; refine Lw.ew_isE (by assumption) hz hv (hb.get (by decide)) ?_; refine Lw.aw_cons ?_; refine Lw.ew_var (i := 4) rfl (.inl rfl) rfl ?_; refine Lw.aw_cons ?_; refine Lw.ew_cls (by assumption) ?_; refine Lw.aw_nil ?_; apply Exists.intro; apply Exists.intro; apply Exists.intro; apply Exists.intro; refine And.intro ?_ ?_; rfl; refine And.intro ?_ ?_; rfl; refine And.intro ?_ ?_; rfl; refine And.intro ?_ ?_; assumption; refine Lw.aw_nil ?_; refine And.intro ?_ ?_; decide; refine Lw.ns_norm (Γ' := [_, _, _, _, _, _]) rfl ?_; refine Lw.ns_nil ?_; refine Lw.ns_norm (Γ' := [_, _, _, _, _, _]) rfl ?_; refine Lw.ns_cons ?_; refine Lw.nw_if ?_; refine Lw.tw_cmp (Lw.opr_or L2.op_ne (L2.op_neD hr.units)) ?_; refine Lw.ew_var (i := 3) rfl (.inl rfl) rfl ?_; refine Lw.ew_lst ?_; refine Lw.aw_cons ?_; refine Lw.ew_bl ?_; refine Lw.aw_cons ?_; refine Lw.ew_bl ?_; refine Lw.aw_cons ?_; refine Lw.ew_bl ?_; refine Lw.aw_cons ?_; refine Lw.ew_bl ?_; refine Lw.aw_nil ?_; refine And.intro ?_ ?_; decide; apply Exists.intro; apply Exists.intro; apply Exists.intro; refine And.intro ?_ ?_; rfl; refine And.intro ?_ ?_; rfl; refine And.intro ?_ ?_; refine Lw.o2_r (Lw.o2_neN (n := 6) (by decide) ?_ ?_); rfl; rfl; refine And.intro ?_ ?_; intro c1; simp only [Bool.not_eq_true'] at c1; refine Lw.ns_cons ?_; refine Lw.nw_of ?_; refine Lw.sw_ret ?_; refine Lw.ew_bl ?_; refine Exists.intro () ?_; refine And.intro ?_ ?_; refine And.intro ?_ ?_; (show _; rotate_left); exact True.intro; exact True.intro; intro c1; simp only [Bool.not_eq_false'] at c1; refine Lw.ns_nil ?_; refine Lw.ns_cons ?_; refine Lw.nw_of ?_; refine Lw.sw_set (i := 5) hN rfl (.inl rfl) ?_; refine Lw.ew_bl ?_; refine Lw.ns_norm (Γ' := [_, _, _, _, _, _]) rfl ?_; refine Lw.ns_cons ?_; (show _; rotate_left); (show _; rotate_left); (show _; rotate_left)))
    · simp [eqvD_lst, eqvDs, eqvD_bl] at c1
    (refine Lw.nw_try_only (Ex' := (fun D fs Γ => D = De ∧ fs = [] ∧ Γ = [.im (.str s), .im (beatsD C L A), .im (beatsD C M B), .ow (.lst [.bl true, .bl true, .bl false, .bl false]), .un, .im (.bl false)])) rfl rfl ⟨rfl, by decide, .inl z2⟩ tk (fun pn xe tk po => ?_) (fun De fse Γe hx => ?_))
    · (focus (refine Lw.ns_cons ?_; refine Lw.nw_of ?_; refine Lw.sw_expr ?_; refine Lw.ew_call d1 hr tk ?_; refine Lw.aw_cons ?_; refine Lw.ew_var (i := 0) rfl (.inl rfl) rfl ?_; refine Lw.aw_cons ?_; refine Lw.ew_var (i := 2) rfl (.inl rfl) rfl ?_; refine Lw.aw_cons ?_; refine Lw.ew_var (i := 1) rfl (.inl rfl) rfl ?_; refine Lw.aw_nil ?_; apply Lw.callPost_5; refine And.intro ?_ ?_; refine And.intro ?_ ?_; (with_reducible rfl); refine And.intro ?_ ?_; (with_reducible rfl); refine And.intro ?_ ?_; (with_reducible rfl); exact True.intro; refine And.intro ?_ ?_; assumption; refine And.intro ?_ ?_; refine And.intro ?_ ?_; omega; refine And.intro ?_ ?_; assumption; refine And.intro ?_ ?_; assumption; assumption; rintro ⟨⟩ -; refine And.intro ?_ ?_; rfl; refine Lw.outP_eq rfl ?_; refine And.intro ?_ ?_; (with_reducible rfl); refine And.intro ?_ ?_; (with_reducible rfl); refine Lw.cons_eq rfl ?_; refine Lw.cons_eq rfl ?_; refine Lw.cons_eq rfl ?_; refine Lw.cons_eq rfl ?_; refine Lw.cons_eq rfl ?_; refine Lw.cons_eq rfl ?_; rfl))
    · obtain ⟨rfl, rfl, rfl⟩ := hx
      refine ⟨true, by assumption, fun _ => ⟨rfl, fun a oe pn hz hv => ?_⟩, fun h => nomatch h⟩
      (focus (refine Lw.ns_norm (Γ' := [_, _, _, _, _, _]) rfl ?_; refine Lw.ns_cons ?_; refine Lw.nw_of ?_; refine Lw.sw_set (i := 5) hN rfl (.inl rfl) ?_; refine Lw.ew_bl ?_; refine Lw.ns_norm (Γ' := [_, _, _, _, _, _]) rfl ?_; refine Lw.ns_nil ?_; refine Lw.ns_cons ?_; refine Lw.nw_of ?_; refine Lw.sw_ret ?_; refine Lw.ew_var (i := 5) rfl (.inl rfl) rfl ?_; refine Exists.intro () ?_; refine And.intro ?_ ?_; refine And.intro ?_ ?_; (with_reducible rfl); exact True.intro; exact True.intro))
def cAllRefused (C : Addr) : Ct (Int × Nat × Int × Nat) := .det
  (ar := fun (L, A, M, B) => [.im (beatsD C L A), .im (beatsD C M B)])
  (ok := fun (L, A, M, B) => L ≠ M ∧ 1 ≤ L ∧ L ≤ 60 ∧ Blw L A ∧ 1 ≤ M ∧ M ≤ 60 ∧ Blw M B)
  (aft := fun (L, A, M, B) => [.im (beatsD C L A), .im (beatsD C M B)])
  (out := fun _ => .ret (.sc (.bl true)))
theorem ok_all_refused (hb : Blt mg blts) (F : Fun K "_law_all_refused" "_law_all_refused" s_law_all_refused f fd) (d1 : Def P w K mg base "_law_refused" 9 (cRefused C)) : FnOk P w K mg base (L2.CX P w) 10 f fd ["one", "other"] (spC K (cAllRefused C)) := by
  (refine Lw.fn_okC F sc_law_all_refused (fun _ => rfl) fun ⟨L, A, M, B⟩ cdv A outer s H E Z ⟨hk, hL1, hL2, hA, hM1, hM2, hB⟩ hr tk po => ?_; have hN := (sc_law_all_refused).nd)
  replace hk : L ≠ M := hk
  replace hL1 : 1 ≤ L := hL1
  replace hL2 : L ≤ 60 := hL2
  replace hA : Blw L A := hA
  replace hM1 : 1 ≤ M := hM1
  replace hM2 : M ≤ 60 := hM2
  replace hB : Blw M B := hB
  have hk' : M ≠ L := fun e => hk e.symm
  (focus (refine Lw.ss_norm (Γ' := [_, _, _]) rfl ?_; refine Lw.ss_cons ?_; refine Lw.sw_forF po rfl ?_; refine Lw.iw_seq ?_; refine Lw.ew_lst ?_; refine Lw.aw_cons ?_; refine Lw.ew_str ?_; refine Lw.aw_cons ?_; refine Lw.ew_str ?_; refine Lw.aw_cons ?_; refine Lw.ew_str ?_; refine Lw.aw_cons ?_; refine Lw.ew_str ?_; refine Lw.aw_cons ?_; refine Lw.ew_str ?_; refine Lw.aw_cons ?_; refine Lw.ew_str ?_; refine Lw.aw_nil ?_; refine And.intro ?_ ?_; decide; apply Exists.intro; refine And.intro ?_ ?_; exact Or.inl rfl; (show _; rotate_left); (show _; rotate_left)))
  refine Lw.for_intro (fun k Γ => Γ = [.im (beatsD C L A), .im (beatsD C M B), .un]) ?_ ?_ ?_
  · (focus (apply Exists.intro; refine And.intro ?_ ?_; rfl; refine Lw.fgt_eq rfl ?_; refine Lw.fgt_eq rfl ?_; refine Lw.fgt_un ?_; exact Lw.fgt_nil))
  · rintro k Γ' hk0 rfl
    have hk6 : k < 6 := hk0
    have h6 : k = 0 ∨ k = 1 ∨ k = 2 ∨ k = 3 ∨ k = 4 ∨ k = 5 := by omega
    rcases h6 with rfl | rfl | rfl | rfl | rfl | rfl
    ((focus (refine Lw.gw_name (i := 2) hN rfl (.inl rfl) ?_; refine Lw.ss_norm (Γ' := [_, _, _]) rfl ?_; refine Lw.ss_cons ?_; refine Lw.sw_if ?_; refine Lw.tw_pw ?_; refine Lw.ww_or ?_; refine Lw.tw_not ?_; refine Lw.tw_val ?_; refine Lw.ew_call d1 hr tk ?_; refine Lw.aw_cons ?_; refine Lw.ew_var (i := 2) rfl (.inl rfl) rfl ?_; refine Lw.aw_cons ?_; refine Lw.ew_var (i := 0) rfl (.inl rfl) rfl ?_; refine Lw.aw_cons ?_; refine Lw.ew_var (i := 1) rfl (.inl rfl) rfl ?_; refine Lw.aw_nil ?_; apply Lw.callPost_5; refine And.intro ?_ ?_; refine And.intro ?_ ?_; rfl; refine And.intro ?_ ?_; (with_reducible rfl); refine And.intro ?_ ?_; (with_reducible rfl); exact True.intro; refine And.intro ?_ ?_; rfl; refine And.intro ?_ ?_; refine And.intro ?_ ?_; assumption; refine And.intro ?_ ?_; assumption; refine And.intro ?_ ?_; assumption; refine And.intro ?_ ?_; assumption; refine And.intro ?_ ?_; assumption; refine And.intro ?_ ?_; assumption; assumption; rintro ⟨⟩ -; refine And.intro ?_ ?_; rfl; refine Lw.outP_eq rfl ?_; apply Exists.intro; apply Exists.intro; refine And.intro ?_ ?_; rfl; refine And.intro ?_ ?_; rfl; refine And.intro ?_ ?_; intro c1; simp only [Bool.not_true] at c1; refine Lw.ww_or1 ?_; refine Lw.tw_not ?_; refine Lw.tw_val ?_; refine Lw.ew_call d1 hr tk ?_; refine Lw.aw_cons ?_; refine Lw.ew_var (i := 2) rfl (.inl rfl) rfl ?_; refine Lw.aw_cons ?_; refine Lw.ew_var (i := 1) rfl (.inl rfl) rfl ?_; refine Lw.aw_cons ?_; refine Lw.ew_var (i := 0) rfl (.inl rfl) rfl ?_; refine Lw.aw_nil ?_; apply Lw.callPost_5; refine And.intro ?_ ?_; refine And.intro ?_ ?_; rfl; refine And.intro ?_ ?_; (with_reducible rfl); refine And.intro ?_ ?_; (with_reducible rfl); exact True.intro; refine And.intro ?_ ?_; rfl; refine And.intro ?_ ?_; refine And.intro ?_ ?_; assumption; refine And.intro ?_ ?_; assumption; refine And.intro ?_ ?_; assumption; refine And.intro ?_ ?_; assumption; refine And.intro ?_ ?_; assumption; refine And.intro ?_ ?_; assumption; assumption; rintro ⟨⟩ -; refine And.intro ?_ ?_; rfl; refine Lw.outP_eq rfl ?_; apply Exists.intro; apply Exists.intro; refine And.intro ?_ ?_; rfl; refine And.intro ?_ ?_; rfl; refine And.intro ?_ ?_; intro c2; simp only [Bool.not_true, Bool.false_eq_true] at c2; intro c2; simp only [Bool.not_true] at c2; refine Lw.ss_norm (Γ' := [_, _, _]) rfl ?_; refine Lw.ss_nil ?_; refine Lw.ss_nil ?_; apply Exists.intro; refine And.intro ?_ ?_; rfl; refine Lw.fgt_eq rfl ?_; refine Lw.fgt_eq rfl ?_; refine Lw.fgt_un ?_; exact Lw.fgt_nil; intro c1; simp only [Bool.not_true, Bool.false_eq_true] at c1)); (focus (refine Lw.gw_name (i := 2) hN rfl (.inl rfl) ?_; refine Lw.ss_norm (Γ' := [_, _, _]) rfl ?_; refine Lw.ss_cons ?_; refine Lw.sw_if ?_; refine Lw.tw_pw ?_; refine Lw.ww_or ?_; refine Lw.tw_not ?_; refine Lw.tw_val ?_; refine Lw.ew_call d1 hr tk ?_; refine Lw.aw_cons ?_; refine Lw.ew_var (i := 2) rfl (.inl rfl) rfl ?_; refine Lw.aw_cons ?_; refine Lw.ew_var (i := 0) rfl (.inl rfl) rfl ?_; refine Lw.aw_cons ?_; refine Lw.ew_var (i := 1) rfl (.inl rfl) rfl ?_; refine Lw.aw_nil ?_; apply Lw.callPost_5; refine And.intro ?_ ?_; refine And.intro ?_ ?_; rfl; refine And.intro ?_ ?_; (with_reducible rfl); refine And.intro ?_ ?_; (with_reducible rfl); exact True.intro; refine And.intro ?_ ?_; rfl; refine And.intro ?_ ?_; refine And.intro ?_ ?_; assumption; refine And.intro ?_ ?_; assumption; refine And.intro ?_ ?_; assumption; refine And.intro ?_ ?_; assumption; refine And.intro ?_ ?_; assumption; refine And.intro ?_ ?_; assumption; assumption; rintro ⟨⟩ -; refine And.intro ?_ ?_; rfl; refine Lw.outP_eq rfl ?_; apply Exists.intro; apply Exists.intro; refine And.intro ?_ ?_; rfl; refine And.intro ?_ ?_; rfl; refine And.intro ?_ ?_; intro c1; simp only [Bool.not_true] at c1; refine Lw.ww_or1 ?_; refine Lw.tw_not ?_; refine Lw.tw_val ?_; refine Lw.ew_call d1 hr tk ?_; refine Lw.aw_cons ?_; refine Lw.ew_var (i := 2) rfl (.inl rfl) rfl ?_; refine Lw.aw_cons ?_; refine Lw.ew_var (i := 1) rfl (.inl rfl) rfl ?_; refine Lw.aw_cons ?_; refine Lw.ew_var (i := 0) rfl (.inl rfl) rfl ?_; refine Lw.aw_nil ?_; apply Lw.callPost_5; refine And.intro ?_ ?_; refine And.intro ?_ ?_; rfl; refine And.intro ?_ ?_; (with_reducible rfl); refine And.intro ?_ ?_; (with_reducible rfl); exact True.intro; refine And.intro ?_ ?_; rfl; refine And.intro ?_ ?_; refine And.intro ?_ ?_; assumption; refine And.intro ?_ ?_; assumption; refine And.intro ?_ ?_; assumption; refine And.intro ?_ ?_; assumption; refine And.intro ?_ ?_; assumption; refine And.intro ?_ ?_; assumption; assumption; rintro ⟨⟩ -; refine And.intro ?_ ?_; rfl; refine Lw.outP_eq rfl ?_; apply Exists.intro; apply Exists.intro; refine And.intro ?_ ?_; rfl; refine And.intro ?_ ?_; rfl; refine And.intro ?_ ?_; intro c2; simp only [Bool.not_true, Bool.false_eq_true] at c2; intro c2; simp only [Bool.not_true] at c2; refine Lw.ss_norm (Γ' := [_, _, _]) rfl ?_; refine Lw.ss_nil ?_; refine Lw.ss_nil ?_; apply Exists.intro; refine And.intro ?_ ?_; rfl; refine Lw.fgt_eq rfl ?_; refine Lw.fgt_eq rfl ?_; refine Lw.fgt_un ?_; exact Lw.fgt_nil; intro c1; simp only [Bool.not_true, Bool.false_eq_true] at c1)); (focus (refine Lw.gw_name (i := 2) hN rfl (.inl rfl) ?_; refine Lw.ss_norm (Γ' := [_, _, _]) rfl ?_; refine Lw.ss_cons ?_; refine Lw.sw_if ?_; refine Lw.tw_pw ?_; refine Lw.ww_or ?_; refine Lw.tw_not ?_; refine Lw.tw_val ?_; refine Lw.ew_call d1 hr tk ?_; refine Lw.aw_cons ?_; refine Lw.ew_var (i := 2) rfl (.inl rfl) rfl ?_; refine Lw.aw_cons ?_; refine Lw.ew_var (i := 0) rfl (.inl rfl) rfl ?_; refine Lw.aw_cons ?_; refine Lw.ew_var (i := 1) rfl (.inl rfl) rfl ?_; refine Lw.aw_nil ?_; apply Lw.callPost_5; refine And.intro ?_ ?_; refine And.intro ?_ ?_; rfl; refine And.intro ?_ ?_; (with_reducible rfl); refine And.intro ?_ ?_; (with_reducible rfl); exact True.intro; refine And.intro ?_ ?_; rfl; refine And.intro ?_ ?_; refine And.intro ?_ ?_; assumption; refine And.intro ?_ ?_; assumption; refine And.intro ?_ ?_; assumption; refine And.intro ?_ ?_; assumption; refine And.intro ?_ ?_; assumption; refine And.intro ?_ ?_; assumption; assumption; rintro ⟨⟩ -; refine And.intro ?_ ?_; rfl; refine Lw.outP_eq rfl ?_; apply Exists.intro; apply Exists.intro; refine And.intro ?_ ?_; rfl; refine And.intro ?_ ?_; rfl; refine And.intro ?_ ?_; intro c1; simp only [Bool.not_true] at c1; refine Lw.ww_or1 ?_; refine Lw.tw_not ?_; refine Lw.tw_val ?_; refine Lw.ew_call d1 hr tk ?_; refine Lw.aw_cons ?_; refine Lw.ew_var (i := 2) rfl (.inl rfl) rfl ?_; refine Lw.aw_cons ?_; refine Lw.ew_var (i := 1) rfl (.inl rfl) rfl ?_; refine Lw.aw_cons ?_; refine Lw.ew_var (i := 0) rfl (.inl rfl) rfl ?_; refine Lw.aw_nil ?_; apply Lw.callPost_5; refine And.intro ?_ ?_; refine And.intro ?_ ?_; rfl; refine And.intro ?_ ?_; (with_reducible rfl); refine And.intro ?_ ?_; (with_reducible rfl); exact True.intro; refine And.intro ?_ ?_; rfl; refine And.intro ?_ ?_; refine And.intro ?_ ?_; assumption; refine And.intro ?_ ?_; assumption; refine And.intro ?_ ?_; assumption; refine And.intro ?_ ?_; assumption; refine And.intro ?_ ?_; assumption; refine And.intro ?_ ?_; assumption; assumption; rintro ⟨⟩ -; refine And.intro ?_ ?_; rfl; refine Lw.outP_eq rfl ?_; apply Exists.intro; apply Exists.intro; refine And.intro ?_ ?_; rfl; refine And.intro ?_ ?_; rfl; refine And.intro ?_ ?_; intro c2; simp only [Bool.not_true, Bool.false_eq_true] at c2; intro c2; simp only [Bool.not_true] at c2; refine Lw.ss_norm (Γ' := [_, _, _]) rfl ?_; refine Lw.ss_nil ?_; refine Lw.ss_nil ?_; apply Exists.intro; refine And.intro ?_ ?_; rfl; refine Lw.fgt_eq rfl ?_; refine Lw.fgt_eq rfl ?_; refine Lw.fgt_un ?_; exact Lw.fgt_nil; intro c1; simp only [Bool.not_true, Bool.false_eq_true] at c1)); (focus (refine Lw.gw_name (i := 2) hN rfl (.inl rfl) ?_; refine Lw.ss_norm (Γ' := [_, _, _]) rfl ?_; refine Lw.ss_cons ?_; refine Lw.sw_if ?_; refine Lw.tw_pw ?_; refine Lw.ww_or ?_; refine Lw.tw_not ?_; refine Lw.tw_val ?_; refine Lw.ew_call d1 hr tk ?_; refine Lw.aw_cons ?_; refine Lw.ew_var (i := 2) rfl (.inl rfl) rfl ?_; refine Lw.aw_cons ?_; refine Lw.ew_var (i := 0) rfl (.inl rfl) rfl ?_; refine Lw.aw_cons ?_; refine Lw.ew_var (i := 1) rfl (.inl rfl) rfl ?_; refine Lw.aw_nil ?_; apply Lw.callPost_5; refine And.intro ?_ ?_; refine And.intro ?_ ?_; rfl; refine And.intro ?_ ?_; (with_reducible rfl); refine And.intro ?_ ?_; (with_reducible rfl); exact True.intro; refine And.intro ?_ ?_; rfl; refine And.intro ?_ ?_; refine And.intro ?_ ?_; assumption; refine And.intro ?_ ?_; assumption; refine And.intro ?_ ?_; assumption; refine And.intro ?_ ?_; assumption; refine And.intro ?_ ?_; assumption; refine And.intro ?_ ?_; assumption; assumption; rintro ⟨⟩ -; refine And.intro ?_ ?_; rfl; refine Lw.outP_eq rfl ?_; apply Exists.intro; apply Exists.intro; refine And.intro ?_ ?_; rfl; refine And.intro ?_ ?_; rfl; refine And.intro ?_ ?_; intro c1; simp only [Bool.not_true] at c1; refine Lw.ww_or1 ?_; refine Lw.tw_not ?_; refine Lw.tw_val ?_; refine Lw.ew_call d1 hr tk ?_; refine Lw.aw_cons ?_; refine Lw.ew_var (i := 2) rfl (.inl rfl) rfl ?_; refine Lw.aw_cons ?_; refine Lw.ew_var (i := 1) rfl (.inl rfl) rfl ?_; refine Lw.aw_cons ?_; refine Lw.ew_var (i := 0) rfl (.inl rfl) rfl ?_; refine Lw.aw_nil ?_; apply Lw.callPost_5; refine And.intro ?_ ?_; refine And.intro ?_ ?_; rfl; refine And.intro ?_ ?_; (with_reducible rfl); refine And.intro ?_ ?_; (with_reducible rfl); exact True.intro; refine And.intro ?_ ?_; rfl; refine And.intro ?_ ?_; refine And.intro ?_ ?_; assumption; refine And.intro ?_ ?_; assumption; refine And.intro ?_ ?_; assumption; refine And.intro ?_ ?_; assumption; refine And.intro ?_ ?_; assumption; refine And.intro ?_ ?_; assumption; assumption; rintro ⟨⟩ -; refine And.intro ?_ ?_; rfl; refine Lw.outP_eq rfl ?_; apply Exists.intro; apply Exists.intro; refine And.intro ?_ ?_; rfl; refine And.intro ?_ ?_; rfl; refine And.intro ?_ ?_; intro c2; simp only [Bool.not_true, Bool.false_eq_true] at c2; intro c2; simp only [Bool.not_true] at c2; refine Lw.ss_norm (Γ' := [_, _, _]) rfl ?_; refine Lw.ss_nil ?_; refine Lw.ss_nil ?_; apply Exists.intro; refine And.intro ?_ ?_; rfl; refine Lw.fgt_eq rfl ?_; refine Lw.fgt_eq rfl ?_; refine Lw.fgt_un ?_; exact Lw.fgt_nil; intro c1; simp only [Bool.not_true, Bool.false_eq_true] at c1)); (focus (refine Lw.gw_name (i := 2) hN rfl (.inl rfl) ?_; refine Lw.ss_norm (Γ' := [_, _, _]) rfl ?_; refine Lw.ss_cons ?_; refine Lw.sw_if ?_; refine Lw.tw_pw ?_; refine Lw.ww_or ?_; refine Lw.tw_not ?_; refine Lw.tw_val ?_; refine Lw.ew_call d1 hr tk ?_; refine Lw.aw_cons ?_; refine Lw.ew_var (i := 2) rfl (.inl rfl) rfl ?_; refine Lw.aw_cons ?_; refine Lw.ew_var (i := 0) rfl (.inl rfl) rfl ?_; refine Lw.aw_cons ?_; refine Lw.ew_var (i := 1) rfl (.inl rfl) rfl ?_; refine Lw.aw_nil ?_; apply Lw.callPost_5; refine And.intro ?_ ?_; refine And.intro ?_ ?_; rfl; refine And.intro ?_ ?_; (with_reducible rfl); refine And.intro ?_ ?_; (with_reducible rfl); exact True.intro; refine And.intro ?_ ?_; rfl; refine And.intro ?_ ?_; refine And.intro ?_ ?_; assumption; refine And.intro ?_ ?_; assumption; refine And.intro ?_ ?_; assumption; refine And.intro ?_ ?_; assumption; refine And.intro ?_ ?_; assumption; refine And.intro ?_ ?_; assumption; assumption; rintro ⟨⟩ -; refine And.intro ?_ ?_; rfl; refine Lw.outP_eq rfl ?_; apply Exists.intro; apply Exists.intro; refine And.intro ?_ ?_; rfl; refine And.intro ?_ ?_; rfl; refine And.intro ?_ ?_; intro c1; simp only [Bool.not_true] at c1; refine Lw.ww_or1 ?_; refine Lw.tw_not ?_; refine Lw.tw_val ?_; refine Lw.ew_call d1 hr tk ?_; refine Lw.aw_cons ?_; refine Lw.ew_var (i := 2) rfl (.inl rfl) rfl ?_; refine Lw.aw_cons ?_; refine Lw.ew_var (i := 1) rfl (.inl rfl) rfl ?_; refine Lw.aw_cons ?_; refine Lw.ew_var (i := 0) rfl (.inl rfl) rfl ?_; refine Lw.aw_nil ?_; apply Lw.callPost_5; refine And.intro ?_ ?_; refine And.intro ?_ ?_; rfl; refine And.intro ?_ ?_; (with_reducible rfl); refine And.intro ?_ ?_; (with_reducible rfl); exact True.intro; refine And.intro ?_ ?_; rfl; refine And.intro ?_ ?_; refine And.intro ?_ ?_; assumption; refine And.intro ?_ ?_; assumption; refine And.intro ?_ ?_; assumption; refine And.intro ?_ ?_; assumption; refine And.intro ?_ ?_; assumption; refine And.intro ?_ ?_; assumption; assumption; rintro ⟨⟩ -; refine And.intro ?_ ?_; rfl; refine Lw.outP_eq rfl ?_; apply Exists.intro; apply Exists.intro; refine And.intro ?_ ?_; rfl; refine And.intro ?_ ?_; rfl; refine And.intro ?_ ?_; intro c2; simp only [Bool.not_true, Bool.false_eq_true] at c2; intro c2; simp only [Bool.not_true] at c2; refine Lw.ss_norm (Γ' := [_, _, _]) rfl ?_; refine Lw.ss_nil ?_; refine Lw.ss_nil ?_; apply Exists.intro; refine And.intro ?_ ?_; rfl; refine Lw.fgt_eq rfl ?_; refine Lw.fgt_eq rfl ?_; refine Lw.fgt_un ?_; exact Lw.fgt_nil; intro c1; simp only [Bool.not_true, Bool.false_eq_true] at c1)); (focus (refine Lw.gw_name (i := 2) hN rfl (.inl rfl) ?_; refine Lw.ss_norm (Γ' := [_, _, _]) rfl ?_; refine Lw.ss_cons ?_; refine Lw.sw_if ?_; refine Lw.tw_pw ?_; refine Lw.ww_or ?_; refine Lw.tw_not ?_; refine Lw.tw_val ?_; refine Lw.ew_call d1 hr tk ?_; refine Lw.aw_cons ?_; refine Lw.ew_var (i := 2) rfl (.inl rfl) rfl ?_; refine Lw.aw_cons ?_; refine Lw.ew_var (i := 0) rfl (.inl rfl) rfl ?_; refine Lw.aw_cons ?_; refine Lw.ew_var (i := 1) rfl (.inl rfl) rfl ?_; refine Lw.aw_nil ?_; apply Lw.callPost_5; refine And.intro ?_ ?_; refine And.intro ?_ ?_; rfl; refine And.intro ?_ ?_; (with_reducible rfl); refine And.intro ?_ ?_; (with_reducible rfl); exact True.intro; refine And.intro ?_ ?_; rfl; refine And.intro ?_ ?_; refine And.intro ?_ ?_; assumption; refine And.intro ?_ ?_; assumption; refine And.intro ?_ ?_; assumption; refine And.intro ?_ ?_; assumption; refine And.intro ?_ ?_; assumption; refine And.intro ?_ ?_; assumption; assumption; rintro ⟨⟩ -; refine And.intro ?_ ?_; rfl; refine Lw.outP_eq rfl ?_; apply Exists.intro; apply Exists.intro; refine And.intro ?_ ?_; rfl; refine And.intro ?_ ?_; rfl; refine And.intro ?_ ?_; intro c1; simp only [Bool.not_true] at c1; refine Lw.ww_or1 ?_; refine Lw.tw_not ?_; refine Lw.tw_val ?_; refine Lw.ew_call d1 hr tk ?_; refine Lw.aw_cons ?_; refine Lw.ew_var (i := 2) rfl (.inl rfl) rfl ?_; refine Lw.aw_cons ?_; refine Lw.ew_var (i := 1) rfl (.inl rfl) rfl ?_; refine Lw.aw_cons ?_; refine Lw.ew_var (i := 0) rfl (.inl rfl) rfl ?_; refine Lw.aw_nil ?_; apply Lw.callPost_5; refine And.intro ?_ ?_; refine And.intro ?_ ?_; rfl; refine And.intro ?_ ?_; (with_reducible rfl); refine And.intro ?_ ?_; (with_reducible rfl); exact True.intro; refine And.intro ?_ ?_; rfl; refine And.intro ?_ ?_; refine And.intro ?_ ?_; assumption; refine And.intro ?_ ?_; assumption; refine And.intro ?_ ?_; assumption; refine And.intro ?_ ?_; assumption; refine And.intro ?_ ?_; assumption; refine And.intro ?_ ?_; assumption; assumption; rintro ⟨⟩ -; refine And.intro ?_ ?_; rfl; refine Lw.outP_eq rfl ?_; apply Exists.intro; apply Exists.intro; refine And.intro ?_ ?_; rfl; refine And.intro ?_ ?_; rfl; refine And.intro ?_ ?_; intro c2; simp only [Bool.not_true, Bool.false_eq_true] at c2; intro c2; simp only [Bool.not_true] at c2; refine Lw.ss_norm (Γ' := [_, _, _]) rfl ?_; refine Lw.ss_nil ?_; refine Lw.ss_nil ?_; apply Exists.intro; refine And.intro ?_ ?_; rfl; refine Lw.fgt_eq rfl ?_; refine Lw.fgt_eq rfl ?_; refine Lw.fgt_un ?_; exact Lw.fgt_nil; intro c1; simp only [Bool.not_true, Bool.false_eq_true] at c1)))
  · rintro Γ' rfl
    (focus (refine Lw.ss_cons ?_; refine Lw.sw_ret ?_; refine Lw.ew_bl ?_; refine Exists.intro () ?_; refine And.intro ?_ ?_; refine And.intro ?_ ?_; (with_reducible rfl); exact True.intro; exact True.intro))
end
section
variable {P : Program} {w : World} {K : PySem.W.Frag} {mg : Str → Option Value} {base : Heap} {f : Addr} {fd : FuncData} {C Eb : Addr}
def cIsSet (C : Addr) : Ct (Int × Nat) := .det
  (ar := fun (L, B) => [.im (beatsD C L B), .im (.int L), .bo (.lst ((bl L B).map D.int))])
  (ok := fun (L, B) => 1 ≤ L ∧ L ≤ 60)
  (aft := fun (L, B) => [.im (beatsD C L B), .im (.int L), .bo (.lst ((bl L B).map D.int))])
  (out := fun _ => .ret (.sc (.bl true)))
theorem ok_is_set (hb : Blt mg blts) (F : Fun K "_law_is_set" "_law_is_set" s_law_is_set f fd) (d1 : Def P w K mg base "_law_same" 3 (cSame 1)) (d5 : ItO P w K mg C "_beats") (d6 : LnO P w K mg C "_beats") (hC : Cls K C) (hI : ClsI K C) (n1 : NoAttr K C "length") (zC : mg "Beats" = some (.ref C)) : FnOk P w K mg base (L2.CX P w) 5 f fd ["got", "length", "due"] (spC K (cIsSet C)) := by
  (refine Lw.fn_okC F sc_law_is_set (fun _ => rfl) fun ⟨L, B⟩ cdv A outer s H E Z ⟨hL1, hL2⟩ hr tk po => ?_; have hN := (sc_law_is_set).nd)
  replace hL1 : 1 ≤ L := hL1
  replace hL2 : L ≤ 60 := hL2
  have hk1 := kit_self K C
  have hl : (bl L B).length ≤ 60 := bl_len60 (by omega)
  (focus (refine Lw.ss_norm (Γ' := [_, _, _]) rfl ?_; refine Lw.ss_cons ?_; refine Lw.sw_ret ?_; refine Lw.ew_and ?_; refine Lw.ew_callB L2.call_isi rfl (hb.get (by decide)) Lw.bb_isinstance ?_; refine Lw.aw_cons ?_; refine Lw.ew_var (i := 0) rfl (.inl rfl) rfl ?_; refine Lw.aw_cons ?_; refine Lw.ew_cls (by assumption) ?_; refine Lw.aw_nil ?_; apply Exists.intro; apply Exists.intro; refine And.intro ?_ ?_; apply Lw.views_cons rfl; apply Lw.views_cons rfl; exact Lw.views_nil; refine And.intro ?_ ?_; exact Lw.on_isi ⟨rfl, by assumption⟩ rfl (by assumption); apply Exists.intro; refine And.intro ?_ ?_; rfl; refine And.intro ?_ ?_; intro c1; simp only at c1; refine Lw.ew_and ?_; refine Lw.ew_call d1 (hr.mono (by omega)) tk ?_; refine Lw.aw_cons ?_; refine Lw.ew_fld ?_; refine Lw.ew_var (i := 0) rfl (.inl rfl) rfl ?_; apply Exists.intro; apply Exists.intro; apply Exists.intro; refine And.intro ?_ ?_; rfl; refine And.intro ?_ ?_; assumption; refine And.intro ?_ ?_; assumption; refine And.intro ?_ ?_; rfl; refine Lw.aw_cons ?_; refine Lw.ew_var (i := 1) rfl (.inl rfl) rfl ?_; refine Lw.aw_nil ?_; apply Lw.callPost_2; refine And.intro ?_ ?_; refine And.intro ?_ ?_; rfl; refine And.intro ?_ ?_; rfl; exact True.intro; refine And.intro ?_ ?_; rfl; refine And.intro ?_ ?_; refine And.intro ?_ ?_; exact okN_int; exact okN_int; rintro ⟨⟩ -; refine And.intro ?_ ?_; rfl; refine Lw.outP_eq rfl ?_; apply Exists.intro; refine And.intro ?_ ?_; rfl; refine And.intro ?_ ?_; intro c2; simp only [sameD_int, decide_true] at c2; refine Lw.ew_one ?_; refine Lw.ew_call d1 (hr.mono (by omega)) tk ?_; refine Lw.aw_cons ?_; refine Lw.ew_callTy (Lw.call_listOwnT (by assumption) (by assumption) rfl hr) rfl (hb.get (by decide)) Lw.bb_list ?_; refine Lw.aw_cons ?_; refine Lw.ew_var (i := 0) rfl (.inl rfl) rfl ?_; refine Lw.aw_nil ?_; apply Exists.intro; apply Exists.intro; refine And.intro ?_ ?_; apply Lw.views_cons rfl; exact Lw.views_nil; refine And.intro ?_ ?_; exact Lw.on_listOwn rfl; refine Lw.aw_cons ?_; refine Lw.ew_var (i := 2) rfl (.inl rfl) rfl ?_; refine Lw.aw_nil ?_; apply Lw.callPost_2; refine And.intro ?_ ?_; refine And.intro ?_ ?_; rfl; refine And.intro ?_ ?_; rfl; exact True.intro; refine And.intro ?_ ?_; rfl; refine And.intro ?_ ?_; refine And.intro ?_ ?_; (apply okN_ints; omega); (apply okN_ints; omega); rintro ⟨⟩ -; refine And.intro ?_ ?_; rfl; refine Lw.outP_eq rfl ?_; refine Exists.intro () ?_; refine And.intro ?_ ?_; refine And.intro ?_ ?_; (show _; rotate_left); exact True.intro; exact True.intro; intro c2; simp only [sameD_int, decide_true, Bool.true_eq_false] at c2; intro c1; simp only [Bool.true_eq_false] at c1; (show _; rotate_left)))
  rw [sameD_ints]
/-- the beats of a list -/
def Tells (L : Int) (A : Nat) (xs : List Int) : Prop := ∀ t : Nat, (t : Int) < L → ((t : Int) ∈ xs ↔ A.testBit t = true)
theorem rangeF_bl {L : Int} {A : Nat} {p : Nat → Bool} (h : ∀ i : Nat, (i : Int) < L → (A.testBit i = true ↔ p i = true)) : rangeF p L.toNat = bl L A := by
  unfold rangeF bl bl0
  congr 1
  refine List.filter_congr fun i hi => ?_
  rw [List.mem_range] at hi
  exact Bool.eq_iff_iff.mpr (h i (by omega)).symm
theorem tells_dec {L : Int} {A : Nat} {xs : List Int} (h : Tells L A xs) {k : Nat} (hk : (k : Int) < L) : A.testBit k = decide ((k : Int) ∈ xs) := by
  rw [Bool.eq_iff_iff, decide_eq_true_eq]; exact (h k hk).symm
theorem bl0_bl {L : Int} {A : Nat} : bl0 A L.toNat = bl L A := by unfold bl; rfl
theorem filter_xor {L : Int} {A B : Nat} : ((bl L (A ||| B)).filter fun x => decide (¬ x ∈ bl L (A &&& B))) = bl L (A ^^^ B) := by
  have e : ∀ x ∈ bl L (A ||| B), decide (¬ x ∈ bl L (A &&& B)) = (fun x : Int => (A ^^^ B).testBit x.toNat) x := fun x hx => by
    obtain ⟨h0, h1, h2⟩ := mem_bl'.mp hx
    rw [Bool.eq_iff_iff, decide_eq_true_eq, mem_bl']
    simp only [Nat.testBit_or, Nat.testBit_and, Nat.testBit_xor, h0, h1, true_and] at h2 ⊢
    revert h2
    cases A.testBit x.toNat <;> cases B.testBit x.toNat <;> simp
  rw [List.filter_congr e]
  unfold bl bl0
  rw [List.filter_map, List.filter_filter]
  congr 1
  refine List.filter_congr fun i hi => ?_
  simp only [Function.comp, Int.toNat_natCast, Nat.testBit_or, Nat.testBit_xor]
  cases A.testBit i <;> cases B.testBit i <;> rfl
theorem within_len {L : Int} {A B : Nat} (hA : Blw L A) : (A &&& B = A) ↔ ((bl L (A &&& B)).length = (bl L A).length) := by
  constructor
  · intro h; rw [h]
  · intro h
    have hs : (bl L (A &&& B)).Sublist (bl L A) := by
      have : bl L (A &&& B) = (bl L A).filter fun x => B.testBit x.toNat := by
        unfold bl bl0
        rw [List.filter_map, List.filter_filter]
        congr 1
        refine List.filter_congr fun i _ => ?_
        simp [Nat.testBit_and, Bool.and_comm]
      rw [this]; exact List.filter_sublist
    have e := hs.eq_of_length h
    refine bits_eq fun i => ?_
    constructor
    · intro q; rw [Nat.testBit_and, Bool.and_eq_true] at q; exact q.1
    · intro q
      have m : (i : Int) ∈ bl L A := mem_bl'.mpr ⟨by omega, by unfold Blw at hA; exact hA i q, by simpa using q⟩
      rw [← e] at m
      simpa using (mem_bl'.mp m).2.2
theorem inv_test {L : Int} (hL : 1 ≤ L) {A k : Nat} (hk : (k : Int) < L) : (invN L A).testBit k = !A.testBit k := by
  rw [Bool.eq_iff_iff]
  exact (mkN_test hL).trans ⟨fun h => h.2, fun h => ⟨hk, h⟩⟩
theorem tells_bts {L : Int} {xs : List Int} (hL : 1 ≤ L) (h : Bts L xs) : Tells L (bitsN L xs) xs := by
  unfold Bts at h
  intro t ht
  rw [bitsN_test]
  constructor
  · intro hx
    exact ⟨t, hx, by rw [Int.emod_eq_of_lt (by omega) ht]; simp⟩
  · rintro ⟨n, hn, e⟩
    have := h.2.1 n hn
    rw [Int.emod_eq_of_lt this.1 this.2] at e
    have : n = (t : Int) := by omega
    rw [← this]; exact hn
theorem sorted_bts {L : Int} {xs : List Int} (hL : 1 ≤ L) (h : Bts L xs) : srt xs = bl L (bitsN L xs) := by
  have ht := tells_bts hL h
  unfold Bts at h
  refine bl_of_perm h.1 fun j => ?_
  constructor
  · intro hj
    have h1 := h.2.1 j hj
    have := (ht j.toNat (by omega)).mp (by rw [Int.toNat_of_nonneg h1.1]; exact hj)
    exact ⟨h1.1, h1.2, this⟩
  · rintro ⟨h0, h1, h2⟩
    have := (ht j.toNat (by omega)).mpr h2
    rwa [Int.toNat_of_nonneg h0] at this
theorem tells_compl {L : Int} (hL : 1 ≤ L) {A : Nat} : Tells L (invN L A) (bl L (invN L A)) := fun t ht => by
  rw [mem_bl']
  simp; omega
theorem bts_len {L : Int} {xs : List Int} (h : Bts L xs) : (xs.length : Int) ≤ L := by unfold Bts at h; exact h.2.2
def cRight (C : Addr) : Ct (Int × Nat × Nat × List Int × List Int) := .det
  (ar := fun (L, A, B, xs, ys) => [.im (beatsD C L A), .im (beatsD C L B), .bo (.lst (xs.map D.int)), .bo (.lst (ys.map D.int)), .im (.int L)])
  (ok := fun (L, A, B, xs, ys) => 1 ≤ L ∧ L ≤ 60 ∧ Blw L A ∧ Blw L B ∧ Tells L A xs ∧ Tells L B ys)
  (aft := fun (L, A, B, xs, ys) => [.im (beatsD C L A), .im (beatsD C L B), .bo (.lst (xs.map D.int)), .bo (.lst (ys.map D.int)), .im (.int L)])
  (out := fun _ => .ret (.sc (.bl true)))
theorem ok_right (hb : Blt mg blts) (F : Fun K "_law_right" "_law_right" s_law_right f fd) (d1 : Def P w K mg base "_law_same" 2 (cSame 0)) (d2 : Def P w K mg base "_law_is_set" 5 (cIsSet C)) (e1 : Dun P w K mg base C "__or__" 6 (spC K (cOr C))) (e2 : Dun P w K mg base C "__and__" 6 (spC K (cAnd C))) (e3 : Dun P w K mg base C "__xor__" 6 (spC K (cXor C))) (e4 : Dun P w K mg base C "__invert__" 5 (spC K (cInv C)))
    (e5 : Mtd P w K mg base C "within" 2 (cWithin C)) (sf : PySem.W.selfFirst K C = true) : FnOk P w K mg base (L2.CX P w) 8 f fd ["a", "b", "xs", "ys", "length"] (spC K (cRight C)) := by
  (refine Lw.fn_okC F sc_law_right (fun _ => rfl) fun ⟨L, A, B, xs, ys⟩ cdv A outer s H E Z ⟨hL1, hL2, hA, hB, hx, hy⟩ hr tk po => ?_; have hN := (sc_law_right).nd)
  replace hL1 : 1 ≤ L := hL1
  replace hL2 : L ≤ 60 := hL2
  replace hA : Blw L A := hA
  replace hB : Blw L B := hB
  replace hx : Tells L A xs := hx
  replace hy : Tells L B ys := hy
  have frz_5 : True := trivial
  have frz_6 : True := trivial
  have frz_7 : True := trivial
  (focus (refine Lw.ss_norm (Γ' := [_, _, _, _, _, _, _, _, _, _]) rfl ?_; refine Lw.ss_cons ?_; refine Lw.sw_setLc (i := 5) (own := [("t", 9)]) rfl hN rfl rfl (L2.blkOk_by (N := ["a", "b", "xs", "ys", "length", "either", "common", "single", "part", "t"]) (sc := (defScope s_law_right)) (by decide +kernel)) ?_ (L2.sw_true rfl rfl rfl (by decide +kernel)); refine Lw.iw_rng1 (hb.get (by decide)) ?_; refine Lw.aw_cons ?_; refine Lw.ew_var (i := 4) rfl (.inl rfl) rfl ?_; refine Lw.aw_nil ?_; apply Exists.intro; refine And.intro ?_ ?_; apply Lw.views_cons rfl; exact Lw.views_nil; refine And.intro ?_ ?_; refine And.intro ?_ ?_; omega; omega; (show _; rotate_left); (show _; rotate_left)))
  refine Lw.lc_intro (fun k acc Γ => acc = (bl0 (A ||| B) k).map D.int ∧ Γ = [.im (beatsD C L A), .im (beatsD C L B), .bo (.lst (xs.map D.int)), .bo (.lst (ys.map D.int)), .im (.int L), .un, .un, .un, .un, .un]) ?_ ?_ ?_
  · exact ⟨by rw [bl0_zero]; rfl, rfl⟩
  · rintro k acc Γ' hk ⟨rfl, rfl⟩
    have hl := bl0_len (A ||| B) k
    have h1 := tells_dec hx (k := k) (by omega)
    have h2 := tells_dec hy (k := k) (by omega)
    (focus (refine And.intro ?_ ?_; apply Lw.noOwn_cons rfl rfl; exact Lw.noOwn_nil; intro Z'; intro s; intro H; intro C; intro cl; intro fp; refine Lw.gc_name (i := 9) hN rfl (.inl rfl) (by decide) ?_; intro s; intro H; intro C; intro cl; intro fp; refine Lw.tc_one ?_; refine Lw.tw_pw ?_; refine Lw.ww_or ?_; refine Lw.tw_cmp L2.op_in_seq ?_; refine Lw.ew_var (i := 9) rfl (.inl rfl) rfl ?_; refine Lw.ew_var (i := 2) rfl (.inr (.inl rfl)) rfl ?_; apply Exists.intro; apply Exists.intro; apply Exists.intro; refine And.intro ?_ ?_; rfl; refine And.intro ?_ ?_; rfl; refine And.intro ?_ ?_; exact Lw.o2_inI; refine And.intro ?_ ?_; intro c1; simp only [decide_eq_false_iff_not] at c1; refine Lw.ww_or1 ?_; refine Lw.tw_cmp L2.op_in_seq ?_; refine Lw.ew_var (i := 9) rfl (.inl rfl) rfl ?_; refine Lw.ew_var (i := 3) rfl (.inr (.inl rfl)) rfl ?_; apply Exists.intro; apply Exists.intro; apply Exists.intro; refine And.intro ?_ ?_; rfl; refine And.intro ?_ ?_; rfl; refine And.intro ?_ ?_; exact Lw.o2_inI; refine And.intro ?_ ?_; intro c2; simp only [decide_eq_true_eq] at c2; intro s; intro H; intro C; intro cl; intro fp; refine Lw.ew_var (i := 9) rfl (.inl rfl) rfl ?_; refine And.intro ?_ ?_; exact True.intro; refine And.intro ?_ ?_; (simp only [List.length_map, List.length_append, List.length_nil, List.length_cons, List.length_set, List.length_replicate, List.length_range, List.length_take, List.length_reverse]; omega); refine And.intro ?_ ?_; (show _; rotate_left); refine Lw.cons_eq rfl ?_; refine Lw.cons_eq rfl ?_; refine Lw.cons_eq rfl ?_; refine Lw.cons_eq rfl ?_; refine Lw.cons_eq rfl ?_; refine Lw.cons_eq rfl ?_; refine Lw.cons_eq rfl ?_; refine Lw.cons_eq rfl ?_; refine Lw.cons_eq rfl ?_; refine Lw.cons_eq rfl ?_; rfl; intro c2; simp only [decide_eq_false_iff_not] at c2; refine And.intro ?_ ?_; exact True.intro; refine And.intro ?_ ?_; (show _; rotate_left); refine Lw.cons_eq rfl ?_; refine Lw.cons_eq rfl ?_; refine Lw.cons_eq rfl ?_; refine Lw.cons_eq rfl ?_; refine Lw.cons_eq rfl ?_; refine Lw.cons_eq rfl ?_; refine Lw.cons_eq rfl ?_; refine Lw.cons_eq rfl ?_; refine Lw.cons_eq rfl ?_; refine Lw.cons_eq rfl ?_; rfl; intro c1; simp only [decide_eq_true_eq] at c1; refine And.intro ?_ ?_; intro c2; simp only at c2; intro s; intro H; intro C; intro cl; intro fp; refine Lw.ew_var (i := 9) rfl (.inl rfl) rfl ?_; refine And.intro ?_ ?_; exact True.intro; refine And.intro ?_ ?_; (simp only [List.length_map, List.length_append, List.length_nil, List.length_cons, List.length_set, List.length_replicate, List.length_range, List.length_take, List.length_reverse]; omega); refine And.intro ?_ ?_; (show _; rotate_left); refine Lw.cons_eq rfl ?_; refine Lw.cons_eq rfl ?_; refine Lw.cons_eq rfl ?_; refine Lw.cons_eq rfl ?_; refine Lw.cons_eq rfl ?_; refine Lw.cons_eq rfl ?_; refine Lw.cons_eq rfl ?_; refine Lw.cons_eq rfl ?_; refine Lw.cons_eq rfl ?_; refine Lw.cons_eq rfl ?_; rfl; intro c2; simp only [Bool.true_eq_false] at c2; (show _; rotate_left); (show _; rotate_left); (show _; rotate_left)))
    all_goals simp [bl0_succ, h1, h2, *]
  · rintro acc Γ' ⟨rfl, rfl⟩
    rw [bl0_bl]
    (focus (refine Lw.ss_norm (Γ' := [_, _, _, _, _, _, _, _, _, _]) rfl ?_; refine Lw.ss_frz (i := 5) rfl ?_; refine Lw.ss_norm (Γ' := [_, _, _, _, _, _, _, _, _, _]) rfl ?_; refine Lw.ss_cons ?_; refine Lw.sw_set (i := 6) hN rfl (.inr rfl) ?_; refine Lw.ew_lc (own := [("t", 9)]) rfl hN (L2.blkOk_by (N := ["a", "b", "xs", "ys", "length", "either", "common", "single", "part", "t"]) (sc := (defScope s_law_right)) (by decide +kernel)) ?_; refine Lw.iw_rng1 (hb.get (by decide)) ?_; refine Lw.aw_cons ?_; refine Lw.ew_var (i := 4) rfl (.inl rfl) rfl ?_; refine Lw.aw_nil ?_; apply Exists.intro; refine And.intro ?_ ?_; apply Lw.views_cons rfl; exact Lw.views_nil; refine And.intro ?_ ?_; refine And.intro ?_ ?_; omega; omega; (show _; rotate_left); (show _; rotate_left)))
    refine Lw.lc_intro (fun k acc Γ => acc = (bl0 (A &&& B) k).map D.int ∧ Γ = [.im (beatsD C L A), .im (beatsD C L B), .bo (.lst (xs.map D.int)), .bo (.lst (ys.map D.int)), .im (.int L), .im (.lst ((bl L (A ||| B)).map D.int)), .un, .un, .un, .un]) ?_ ?_ ?_
    · exact ⟨by rw [bl0_zero]; rfl, rfl⟩
    · rintro k acc Γ' hk ⟨rfl, rfl⟩
      have hl := bl0_len (A &&& B) k
      have h1 := tells_dec hx (k := k) (by omega)
      have h2 := tells_dec hy (k := k) (by omega)
      (focus (refine And.intro ?_ ?_; apply Lw.noOwn_cons rfl rfl; exact Lw.noOwn_nil; intro Z'; intro s; intro H; intro C; intro cl; intro fp; refine Lw.gc_name (i := 9) hN rfl (.inl rfl) (by decide) ?_; intro s; intro H; intro C; intro cl; intro fp; refine Lw.tc_one ?_; refine Lw.tw_pw ?_; refine Lw.ww_and ?_; refine Lw.tw_cmp L2.op_in_seq ?_; refine Lw.ew_var (i := 9) rfl (.inl rfl) rfl ?_; refine Lw.ew_var (i := 2) rfl (.inr (.inl rfl)) rfl ?_; apply Exists.intro; apply Exists.intro; apply Exists.intro; refine And.intro ?_ ?_; rfl; refine And.intro ?_ ?_; rfl; refine And.intro ?_ ?_; exact Lw.o2_inI; refine And.intro ?_ ?_; intro c1; simp only [decide_eq_true_eq] at c1; refine Lw.ww_and1 ?_; refine Lw.tw_cmp L2.op_in_seq ?_; refine Lw.ew_var (i := 9) rfl (.inl rfl) rfl ?_; refine Lw.ew_var (i := 3) rfl (.inr (.inl rfl)) rfl ?_; apply Exists.intro; apply Exists.intro; apply Exists.intro; refine And.intro ?_ ?_; rfl; refine And.intro ?_ ?_; rfl; refine And.intro ?_ ?_; exact Lw.o2_inI; refine And.intro ?_ ?_; intro c2; simp only [decide_eq_true_eq] at c2; intro s; intro H; intro C; intro cl; intro fp; refine Lw.ew_var (i := 9) rfl (.inl rfl) rfl ?_; refine And.intro ?_ ?_; exact True.intro; refine And.intro ?_ ?_; (simp only [List.length_map, List.length_append, List.length_nil, List.length_cons, List.length_set, List.length_replicate, List.length_range, List.length_take, List.length_reverse]; omega); refine And.intro ?_ ?_; (show _; rotate_left); refine Lw.cons_eq rfl ?_; refine Lw.cons_eq rfl ?_; refine Lw.cons_eq rfl ?_; refine Lw.cons_eq rfl ?_; refine Lw.cons_eq rfl ?_; refine Lw.cons_eq rfl ?_; refine Lw.cons_eq rfl ?_; refine Lw.cons_eq rfl ?_; refine Lw.cons_eq rfl ?_; refine Lw.cons_eq rfl ?_; rfl; intro c2; simp only [decide_eq_false_iff_not] at c2; refine And.intro ?_ ?_; exact True.intro; refine And.intro ?_ ?_; (show _; rotate_left); refine Lw.cons_eq rfl ?_; refine Lw.cons_eq rfl ?_; refine Lw.cons_eq rfl ?_; refine Lw.cons_eq rfl ?_; refine Lw.cons_eq rfl ?_; refine Lw.cons_eq rfl ?_; refine Lw.cons_eq rfl ?_; refine Lw.cons_eq rfl ?_; refine Lw.cons_eq rfl ?_; refine Lw.cons_eq rfl ?_; rfl; intro c1; simp only [decide_eq_false_iff_not] at c1; refine And.intro ?_ ?_; intro c2; simp only [Bool.false_eq_true] at c2; intro c2; simp only at c2; refine And.intro ?_ ?_; exact True.intro; refine And.intro ?_ ?_; (show _; rotate_left); refine Lw.cons_eq rfl ?_; refine Lw.cons_eq rfl ?_; refine Lw.cons_eq rfl ?_; refine Lw.cons_eq rfl ?_; refine Lw.cons_eq rfl ?_; refine Lw.cons_eq rfl ?_; refine Lw.cons_eq rfl ?_; refine Lw.cons_eq rfl ?_; refine Lw.cons_eq rfl ?_; refine Lw.cons_eq rfl ?_; rfl; (show _; rotate_left); (show _; rotate_left); (show _; rotate_left)))
      all_goals simp [bl0_succ, h1, h2, *]
    · rintro acc Γ' ⟨rfl, rfl⟩
      rw [bl0_bl]
      (focus (refine Lw.ss_norm (Γ' := [_, _, _, _, _, _, _, _, _, _]) rfl ?_; refine Lw.ss_frz (i := 6) rfl ?_; refine Lw.ss_norm (Γ' := [_, _, _, _, _, _, _, _, _, _]) rfl ?_; refine Lw.ss_cons ?_; refine Lw.sw_setLc (i := 7) (own := [("t", 9)]) rfl hN rfl rfl (L2.blkOk_by (N := ["a", "b", "xs", "ys", "length", "either", "common", "single", "part", "t"]) (sc := (defScope s_law_right)) (by decide +kernel)) ?_ (L2.sw_true rfl rfl rfl (by decide +kernel)); refine Lw.iw_seq ?_; refine Lw.ew_var (i := 5) rfl (.inl rfl) rfl ?_; apply Exists.intro; refine And.intro ?_ ?_; exact Or.inl rfl; (show _; rotate_left); (show _; rotate_left)))
      refine Lw.lc_intro (fun k acc Γ => acc = (((bl L (A ||| B)).take k).filter fun x => decide (¬ x ∈ bl L (A &&& B))).map D.int ∧ Γ = [.im (beatsD C L A), .im (beatsD C L B), .bo (.lst (xs.map D.int)), .bo (.lst (ys.map D.int)), .im (.int L), .im (.lst ((bl L (A ||| B)).map D.int)), .im (.lst ((bl L (A &&& B)).map D.int)), .un, .un, .un]) ?_ ?_ ?_
      · (focus (refine And.intro ?_ ?_; rfl; refine Lw.cons_eq rfl ?_; refine Lw.cons_eq rfl ?_; refine Lw.cons_eq rfl ?_; refine Lw.cons_eq rfl ?_; refine Lw.cons_eq rfl ?_; refine Lw.cons_eq rfl ?_; refine Lw.cons_eq rfl ?_; refine Lw.cons_eq rfl ?_; refine Lw.cons_eq rfl ?_; refine Lw.cons_eq rfl ?_; rfl))
      · rintro k acc Γ' hk ⟨rfl, rfl⟩
        simp only [List.length_map] at hk
        have hl : (bl L (A ||| B)).length ≤ 60 := bl_len60 (by omega)
        have hfl := fil_len (p := fun x => decide (¬ x ∈ bl L (A &&& B))) hk hl
        (focus (refine And.intro ?_ ?_; apply Lw.noOwn_cons rfl rfl; exact Lw.noOwn_nil; intro Z'; intro s; intro H; intro C; intro cl; intro fp; refine Lw.gc_eq (Lw.getD_mapI (by first | omega | assumption | (simp only [List.length_map, List.length_reverse, List.length_range] at *; omega))) ?_; refine Lw.gc_name (i := 9) hN rfl (.inl rfl) (by decide) ?_; intro s; intro H; intro C; intro cl; intro fp; refine Lw.tc_one ?_; refine Lw.tw_cmp L2.op_notIn_seq ?_; refine Lw.ew_var (i := 9) rfl (.inl rfl) rfl ?_; refine Lw.ew_var (i := 6) rfl (.inr (.inl rfl)) rfl ?_; apply Exists.intro; apply Exists.intro; apply Exists.intro; refine And.intro ?_ ?_; rfl; refine And.intro ?_ ?_; rfl; refine And.intro ?_ ?_; exact Lw.o2_ninI; refine And.intro ?_ ?_; intro c1; simp only [Bool.not_eq_true', decide_eq_false_iff_not] at c1; intro s; intro H; intro C; intro cl; intro fp; refine Lw.ew_var (i := 9) rfl (.inl rfl) rfl ?_; refine And.intro ?_ ?_; exact True.intro; refine And.intro ?_ ?_; omega; refine And.intro ?_ ?_; (show _; rotate_left); refine Lw.cons_eq rfl ?_; refine Lw.cons_eq rfl ?_; refine Lw.cons_eq rfl ?_; refine Lw.cons_eq rfl ?_; refine Lw.cons_eq rfl ?_; refine Lw.cons_eq rfl ?_; refine Lw.cons_eq rfl ?_; refine Lw.cons_eq rfl ?_; refine Lw.cons_eq rfl ?_; refine Lw.cons_eq rfl ?_; rfl; intro c1; simp only [Bool.not_eq_false', decide_eq_true_eq] at c1; refine And.intro ?_ ?_; exact True.intro; refine And.intro ?_ ?_; (show _; rotate_left); refine Lw.cons_eq rfl ?_; refine Lw.cons_eq rfl ?_; refine Lw.cons_eq rfl ?_; refine Lw.cons_eq rfl ?_; refine Lw.cons_eq rfl ?_; refine Lw.cons_eq rfl ?_; refine Lw.cons_eq rfl ?_; refine Lw.cons_eq rfl ?_; refine Lw.cons_eq rfl ?_; refine Lw.cons_eq rfl ?_; rfl; (show _; rotate_left); (show _; rotate_left)))
        · exact fil_t hk (by simpa using c1)
        · exact fil_f hk (by simpa using c1)
      · rintro acc Γ' ⟨rfl, rfl⟩
        rw [List.length_map, List.take_length, filter_xor]
        (focus (refine Lw.ss_norm (Γ' := [_, _, _, _, _, _, _, _, _, _]) rfl ?_; refine Lw.ss_frz (i := 7) rfl ?_; refine Lw.ss_norm (Γ' := [_, _, _, _, _, _, _, _, _, _]) rfl ?_; refine Lw.ss_cons ?_; refine Lw.sw_if ?_; refine Lw.tw_pw ?_; refine Lw.ww_or ?_; refine Lw.tw_not ?_; refine Lw.tw_val ?_; refine Lw.ew_call d2 (hr.mono (by omega)) tk ?_; refine Lw.aw_cons ?_; refine Lw.ew_binO e1 (hr.mono (by omega)) tk (by assumption) rfl ?_; refine Lw.ew_var (i := 0) rfl (.inl rfl) rfl ?_; refine Lw.ew_var (i := 1) rfl (.inl rfl) rfl ?_; refine And.intro ?_ ?_; apply Exists.intro; rfl; refine And.intro ?_ ?_; apply Exists.intro; rfl; apply Lw.callPost_3; refine And.intro ?_ ?_; refine And.intro ?_ ?_; (with_reducible rfl); refine And.intro ?_ ?_; (with_reducible rfl); exact True.intro; refine And.intro ?_ ?_; rfl; refine And.intro ?_ ?_; refine And.intro ?_ ?_; assumption; refine And.intro ?_ ?_; assumption; refine And.intro ?_ ?_; assumption; assumption; rintro ⟨⟩ -; refine And.intro ?_ ?_; rfl; refine Lw.outP_eq rfl ?_; refine Lw.aw_cons ?_; refine Lw.ew_var (i := 4) rfl (.inl rfl) rfl ?_; refine Lw.aw_cons ?_; refine Lw.ew_var (i := 5) rfl (.inl rfl) rfl ?_; refine Lw.aw_nil ?_; apply Lw.callPost_2; refine And.intro ?_ ?_; refine And.intro ?_ ?_; (with_reducible rfl); refine And.intro ?_ ?_; (with_reducible rfl); refine And.intro ?_ ?_; rfl; exact True.intro; refine And.intro ?_ ?_; rfl; refine And.intro ?_ ?_; refine And.intro ?_ ?_; assumption; assumption; rintro ⟨⟩ -; refine And.intro ?_ ?_; rfl; refine Lw.outP_eq rfl ?_; apply Exists.intro; apply Exists.intro; refine And.intro ?_ ?_; rfl; refine And.intro ?_ ?_; rfl; refine And.intro ?_ ?_; intro c1; simp only [Bool.not_true] at c1; refine Lw.ww_or1 ?_; refine Lw.tw_not ?_; refine Lw.tw_val ?_; refine Lw.ew_call d2 (hr.mono (by omega)) tk ?_; refine Lw.aw_cons ?_; refine Lw.ew_binO e2 (hr.mono (by omega)) tk (by assumption) rfl ?_; refine Lw.ew_var (i := 0) rfl (.inl rfl) rfl ?_; refine Lw.ew_var (i := 1) rfl (.inl rfl) rfl ?_; refine And.intro ?_ ?_; apply Exists.intro; rfl; refine And.intro ?_ ?_; apply Exists.intro; rfl; apply Lw.callPost_3; refine And.intro ?_ ?_; refine And.intro ?_ ?_; (with_reducible rfl); refine And.intro ?_ ?_; (with_reducible rfl); exact True.intro; refine And.intro ?_ ?_; rfl; refine And.intro ?_ ?_; refine And.intro ?_ ?_; assumption; refine And.intro ?_ ?_; assumption; refine And.intro ?_ ?_; assumption; assumption; rintro ⟨⟩ -; refine And.intro ?_ ?_; rfl; refine Lw.outP_eq rfl ?_; refine Lw.aw_cons ?_; refine Lw.ew_var (i := 4) rfl (.inl rfl) rfl ?_; refine Lw.aw_cons ?_; refine Lw.ew_var (i := 6) rfl (.inr (.inl rfl)) rfl ?_; refine Lw.aw_nil ?_; apply Lw.callPost_2; refine And.intro ?_ ?_; refine And.intro ?_ ?_; (with_reducible rfl); refine And.intro ?_ ?_; (with_reducible rfl); refine And.intro ?_ ?_; rfl; exact True.intro; refine And.intro ?_ ?_; rfl; refine And.intro ?_ ?_; refine And.intro ?_ ?_; assumption; assumption; rintro ⟨⟩ -; refine And.intro ?_ ?_; rfl; refine Lw.outP_eq rfl ?_; apply Exists.intro; apply Exists.intro; refine And.intro ?_ ?_; rfl; refine And.intro ?_ ?_; rfl; refine And.intro ?_ ?_; intro c2; simp only [Bool.not_true, Bool.false_eq_true] at c2; intro c2; simp only [Bool.not_true] at c2; refine Lw.ss_norm (Γ' := [_, _, _, _, _, _, _, _, _, _]) rfl ?_; refine Lw.ss_nil ?_; refine Lw.ss_cons ?_; refine Lw.sw_if ?_; refine Lw.tw_not ?_; refine Lw.tw_val ?_; refine Lw.ew_call d2 (hr.mono (by omega)) tk ?_; refine Lw.aw_cons ?_; refine Lw.ew_binO e3 (hr.mono (by omega)) tk (by assumption) rfl ?_; refine Lw.ew_var (i := 0) rfl (.inl rfl) rfl ?_; refine Lw.ew_var (i := 1) rfl (.inl rfl) rfl ?_; refine And.intro ?_ ?_; apply Exists.intro; rfl; refine And.intro ?_ ?_; apply Exists.intro; rfl; apply Lw.callPost_3; refine And.intro ?_ ?_; refine And.intro ?_ ?_; (with_reducible rfl); refine And.intro ?_ ?_; (with_reducible rfl); exact True.intro; refine And.intro ?_ ?_; rfl; refine And.intro ?_ ?_; refine And.intro ?_ ?_; assumption; refine And.intro ?_ ?_; assumption; refine And.intro ?_ ?_; assumption; assumption; rintro ⟨⟩ -; refine And.intro ?_ ?_; rfl; refine Lw.outP_eq rfl ?_; refine Lw.aw_cons ?_; refine Lw.ew_var (i := 4) rfl (.inl rfl) rfl ?_; refine Lw.aw_cons ?_; refine Lw.ew_var (i := 7) rfl (.inl rfl) rfl ?_; refine Lw.aw_nil ?_; apply Lw.callPost_2; refine And.intro ?_ ?_; refine And.intro ?_ ?_; (with_reducible rfl); refine And.intro ?_ ?_; (with_reducible rfl); refine And.intro ?_ ?_; rfl; exact True.intro; refine And.intro ?_ ?_; rfl; refine And.intro ?_ ?_; refine And.intro ?_ ?_; assumption; assumption; rintro ⟨⟩ -; refine And.intro ?_ ?_; rfl; refine Lw.outP_eq rfl ?_; apply Exists.intro; apply Exists.intro; refine And.intro ?_ ?_; rfl; refine And.intro ?_ ?_; rfl; refine And.intro ?_ ?_; intro c3; simp only [Bool.not_true, Bool.false_eq_true] at c3; intro c3; simp only [Bool.not_true] at c3; refine Lw.ss_norm (Γ' := [_, _, _, _, _, _, _, _, _, _]) rfl ?_; refine Lw.ss_nil ?_; refine Lw.ss_cons ?_; refine Lw.sw_set (i := 8) hN rfl (.inl rfl) ?_; refine Lw.ew_cmp (Lw.opr_or L2.op_eq (L2.op_eqD hr.units)) ?_; refine Lw.ew_callB L2.call_len_seq rfl (hb.get (by decide)) Lw.bb_len ?_; refine Lw.aw_cons ?_; refine Lw.ew_var (i := 6) rfl (.inr (.inl rfl)) rfl ?_; refine Lw.aw_nil ?_; apply Exists.intro; apply Exists.intro; refine And.intro ?_ ?_; apply Lw.views_cons rfl; exact Lw.views_nil; refine And.intro ?_ ?_; exact Lw.on_lenL; refine Lw.ew_callB L2.call_len_seq rfl (hb.get (by decide)) Lw.bb_len ?_; refine Lw.aw_cons ?_; refine Lw.ew_lc (own := [("t", 9)]) rfl hN (L2.blkOk_by (N := ["a", "b", "xs", "ys", "length", "either", "common", "single", "part", "t"]) (sc := (defScope s_law_right)) (by decide +kernel)) ?_; refine Lw.iw_rng1 (hb.get (by decide)) ?_; refine Lw.aw_cons ?_; refine Lw.ew_var (i := 4) rfl (.inl rfl) rfl ?_; refine Lw.aw_nil ?_; apply Exists.intro; refine And.intro ?_ ?_; apply Lw.views_cons rfl; exact Lw.views_nil; refine And.intro ?_ ?_; refine And.intro ?_ ?_; omega; omega; (show _; rotate_left); intro c1; simp only [Bool.not_true, Bool.false_eq_true] at c1; (show _; rotate_left)))
        refine Lw.lc_intro (fun k acc Γ => acc = (bl0 A k).map D.int ∧ Γ = [.im (beatsD C L A), .im (beatsD C L B), .bo (.lst (xs.map D.int)), .bo (.lst (ys.map D.int)), .im (.int L), .im (.lst ((bl L (A ||| B)).map D.int)), .im (.lst ((bl L (A &&& B)).map D.int)), .im (.lst ((bl L (A ^^^ B)).map D.int)), .un, .un]) ?_ ?_ ?_
        · exact ⟨by rw [bl0_zero]; rfl, rfl⟩
        · rintro k acc Γ' hk ⟨rfl, rfl⟩
          have hl := bl0_len A k
          have h1 := tells_dec hx (k := k) (by omega)
          (focus (refine And.intro ?_ ?_; apply Lw.noOwn_cons rfl rfl; exact Lw.noOwn_nil; intro Z'; intro s; intro H; intro C; intro cl; intro fp; refine Lw.gc_name (i := 9) hN rfl (.inl rfl) (by decide) ?_; intro s; intro H; intro C; intro cl; intro fp; refine Lw.tc_one ?_; refine Lw.tw_cmp L2.op_in_seq ?_; refine Lw.ew_var (i := 9) rfl (.inl rfl) rfl ?_; refine Lw.ew_var (i := 2) rfl (.inr (.inl rfl)) rfl ?_; apply Exists.intro; apply Exists.intro; apply Exists.intro; refine And.intro ?_ ?_; rfl; refine And.intro ?_ ?_; rfl; refine And.intro ?_ ?_; exact Lw.o2_inI; refine And.intro ?_ ?_; intro c4; simp only [decide_eq_true_eq] at c4; intro s; intro H; intro C; intro cl; intro fp; refine Lw.ew_var (i := 9) rfl (.inl rfl) rfl ?_; refine And.intro ?_ ?_; exact True.intro; refine And.intro ?_ ?_; (simp only [List.length_map, List.length_append, List.length_nil, List.length_cons, List.length_set, List.length_replicate, List.length_range, List.length_take, List.length_reverse]; omega); refine And.intro ?_ ?_; (show _; rotate_left); refine Lw.cons_eq rfl ?_; refine Lw.cons_eq rfl ?_; refine Lw.cons_eq rfl ?_; refine Lw.cons_eq rfl ?_; refine Lw.cons_eq rfl ?_; refine Lw.cons_eq rfl ?_; refine Lw.cons_eq rfl ?_; refine Lw.cons_eq rfl ?_; refine Lw.cons_eq rfl ?_; refine Lw.cons_eq rfl ?_; rfl; intro c4; simp only [decide_eq_false_iff_not] at c4; refine And.intro ?_ ?_; exact True.intro; refine And.intro ?_ ?_; (show _; rotate_left); refine Lw.cons_eq rfl ?_; refine Lw.cons_eq rfl ?_; refine Lw.cons_eq rfl ?_; refine Lw.cons_eq rfl ?_; refine Lw.cons_eq rfl ?_; refine Lw.cons_eq rfl ?_; refine Lw.cons_eq rfl ?_; refine Lw.cons_eq rfl ?_; refine Lw.cons_eq rfl ?_; refine Lw.cons_eq rfl ?_; rfl; (show _; rotate_left); (show _; rotate_left)))
          all_goals simp [bl0_succ, h1, *]
        · rintro acc Γ' ⟨rfl, rfl⟩
          rw [bl0_bl]
          have hw := within_len (B := B) hA
          (focus (refine Lw.aw_nil ?_; apply Exists.intro; apply Exists.intro; refine And.intro ?_ ?_; apply Lw.views_cons rfl; exact Lw.views_nil; refine And.intro ?_ ?_; exact Lw.on_lenL; apply Exists.intro; apply Exists.intro; apply Exists.intro; refine And.intro ?_ ?_; rfl; refine And.intro ?_ ?_; rfl; refine And.intro ?_ ?_; exact Lw.o2_l Lw.o2_eqI; refine Lw.ss_norm (Γ' := [_, _, _, _, _, _, _, _, _, _]) rfl ?_; refine Lw.ss_cons ?_; refine Lw.sw_if ?_; refine Lw.tw_not ?_; refine Lw.tw_val ?_; refine Lw.ew_call d1 (hr.mono (by omega)) tk ?_; refine Lw.aw_cons ?_; refine Lw.ew_meth e5 (hr.mono (by omega)) tk ?_; refine Lw.ew_var (i := 0) rfl (.inl rfl) rfl ?_; refine And.intro ?_ ?_; apply Exists.intro; refine And.intro ?_ ?_; rfl; rfl; refine Lw.aw_cons ?_; refine Lw.ew_var (i := 1) rfl (.inl rfl) rfl ?_; refine Lw.aw_nil ?_; apply Lw.callPost_3; refine And.intro ?_ ?_; refine And.intro ?_ ?_; (with_reducible rfl); refine And.intro ?_ ?_; (with_reducible rfl); exact True.intro; refine And.intro ?_ ?_; rfl; refine And.intro ?_ ?_; exact True.intro; rintro ⟨⟩ -; refine And.intro ?_ ?_; rfl; refine Lw.outP_eq rfl ?_; refine Lw.aw_cons ?_; refine Lw.ew_var (i := 8) rfl (.inl rfl) rfl ?_; refine Lw.aw_nil ?_; apply Lw.callPost_2; refine And.intro ?_ ?_; refine And.intro ?_ ?_; rfl; refine And.intro ?_ ?_; rfl; exact True.intro; refine And.intro ?_ ?_; rfl; refine And.intro ?_ ?_; refine And.intro ?_ ?_; exact okN_bl; exact okN_bl; rintro ⟨⟩ -; refine And.intro ?_ ?_; rfl; refine Lw.outP_eq rfl ?_; apply Exists.intro; apply Exists.intro; refine And.intro ?_ ?_; rfl; refine And.intro ?_ ?_; rfl; refine And.intro ?_ ?_; intro c4; simp only [List.length_map, sameD_bl, Bool.not_eq_true'] at c4; refine Lw.ss_norm (Γ' := [_, _, _, _, _, _, _, _, _, _]) rfl ?_; refine Lw.ss_cons ?_; refine Lw.sw_ret ?_; refine Lw.ew_bl ?_; refine Exists.intro () ?_; refine And.intro ?_ ?_; refine And.intro ?_ ?_; (show _; rotate_left); exact True.intro; exact True.intro; intro c4; simp only [List.length_map, sameD_bl, Bool.not_eq_false', beq_iff_eq] at c4; refine Lw.ss_norm (Γ' := [_, _, _, _, _, _, _, _, _, _]) rfl ?_; refine Lw.ss_nil ?_; refine Lw.ss_cons ?_; refine Lw.sw_ret ?_; refine Lw.ew_call d2 (hr.mono (by omega)) tk ?_; refine Lw.aw_cons ?_; refine Lw.ew_invO (by assumption) (hr.mono (by omega)) tk ?_; refine Lw.ew_var (i := 0) rfl (.inl rfl) rfl ?_; refine And.intro ?_ ?_; apply Exists.intro; rfl; apply Lw.callPost_2; refine And.intro ?_ ?_; refine And.intro ?_ ?_; (with_reducible rfl); exact True.intro; refine And.intro ?_ ?_; rfl; refine And.intro ?_ ?_; refine And.intro ?_ ?_; assumption; refine And.intro ?_ ?_; assumption; assumption; rintro ⟨⟩ -; refine And.intro ?_ ?_; rfl; refine Lw.outP_eq rfl ?_; refine Lw.aw_cons ?_; refine Lw.ew_var (i := 4) rfl (.inl rfl) rfl ?_; refine Lw.aw_cons ?_; refine Lw.ew_lc (own := [("t", 9)]) rfl hN (L2.blkOk_by (N := ["a", "b", "xs", "ys", "length", "either", "common", "single", "part", "t"]) (sc := (defScope s_law_right)) (by decide +kernel)) ?_; refine Lw.iw_rng1 (hb.get (by decide)) ?_; refine Lw.aw_cons ?_; refine Lw.ew_var (i := 4) rfl (.inl rfl) rfl ?_; refine Lw.aw_nil ?_; apply Exists.intro; refine And.intro ?_ ?_; apply Lw.views_cons rfl; exact Lw.views_nil; refine And.intro ?_ ?_; refine And.intro ?_ ?_; omega; omega; (show _; rotate_left); (show _; rotate_left); (show _; rotate_left)))
          · exact absurd c4 (by rw [beq_eq_false_iff_ne, ne_eq, Decidable.not_not, decide_eq_decide]; omega)
          · refine Lw.lc_intro (fun k acc Γ => acc = (bl0 (invN L A) k).map D.int ∧ Γ = [.im (beatsD C L A), .im (beatsD C L B), .bo (.lst (xs.map D.int)), .bo (.lst (ys.map D.int)), .im (.int L), .im (.lst ((bl L (A ||| B)).map D.int)), .im (.lst ((bl L (A &&& B)).map D.int)), .im (.lst ((bl L (A ^^^ B)).map D.int)), .im (.bl (decide (((bl L (A &&& B)).length : Int) = ((bl L A).length : Int)))), .un]) ?_ ?_ ?_
            · refine ⟨by rw [bl0_zero]; rfl, ?_⟩
              (focus (refine Lw.cons_eq rfl ?_; refine Lw.cons_eq rfl ?_; refine Lw.cons_eq rfl ?_; refine Lw.cons_eq rfl ?_; refine Lw.cons_eq rfl ?_; refine Lw.cons_eq rfl ?_; refine Lw.cons_eq rfl ?_; refine Lw.cons_eq rfl ?_; refine Lw.cons_eq (Lw.sim_eq ?_) ?_; (focus (simp only [List.length_map, List.take_length]; done)); refine Lw.cons_eq rfl ?_; rfl))
            · rintro k acc Γ' hk ⟨rfl, rfl⟩
              have hl := bl0_len (invN L A) k
              have h1 := tells_dec hx (k := k) (by omega)
              have h2 := inv_test hL1 (A := A) (k := k) (by omega)
              (focus (refine And.intro ?_ ?_; apply Lw.noOwn_cons rfl rfl; exact Lw.noOwn_nil; intro Z'; intro s; intro H; intro C; intro cl; intro fp; refine Lw.gc_name (i := 9) hN rfl (.inl rfl) (by decide) ?_; intro s; intro H; intro C; intro cl; intro fp; refine Lw.tc_one ?_; refine Lw.tw_cmp L2.op_notIn_seq ?_; refine Lw.ew_var (i := 9) rfl (.inl rfl) rfl ?_; refine Lw.ew_var (i := 2) rfl (.inr (.inl rfl)) rfl ?_; apply Exists.intro; apply Exists.intro; apply Exists.intro; refine And.intro ?_ ?_; rfl; refine And.intro ?_ ?_; rfl; refine And.intro ?_ ?_; exact Lw.o2_ninI; refine And.intro ?_ ?_; intro c5; simp only [Bool.not_eq_true', decide_eq_false_iff_not] at c5; intro s; intro H; intro C; intro cl; intro fp; refine Lw.ew_var (i := 9) rfl (.inl rfl) rfl ?_; refine And.intro ?_ ?_; exact True.intro; refine And.intro ?_ ?_; (simp only [List.length_map, List.length_append, List.length_nil, List.length_cons, List.length_set, List.length_replicate, List.length_range, List.length_take, List.length_reverse]; omega); refine And.intro ?_ ?_; (show _; rotate_left); refine Lw.cons_eq rfl ?_; refine Lw.cons_eq rfl ?_; refine Lw.cons_eq rfl ?_; refine Lw.cons_eq rfl ?_; refine Lw.cons_eq rfl ?_; refine Lw.cons_eq rfl ?_; refine Lw.cons_eq rfl ?_; refine Lw.cons_eq rfl ?_; refine Lw.cons_eq rfl ?_; refine Lw.cons_eq rfl ?_; rfl; intro c5; simp only [Bool.not_eq_false', decide_eq_true_eq] at c5; refine And.intro ?_ ?_; exact True.intro; refine And.intro ?_ ?_; (show _; rotate_left); refine Lw.cons_eq rfl ?_; refine Lw.cons_eq rfl ?_; refine Lw.cons_eq rfl ?_; refine Lw.cons_eq rfl ?_; refine Lw.cons_eq rfl ?_; refine Lw.cons_eq rfl ?_; refine Lw.cons_eq rfl ?_; refine Lw.cons_eq rfl ?_; refine Lw.cons_eq rfl ?_; refine Lw.cons_eq rfl ?_; rfl; (show _; rotate_left); (show _; rotate_left)))
              all_goals simp [bl0_succ, h2, h1, *]
            · rintro acc Γ' ⟨rfl, rfl⟩
              rw [bl0_bl]
              (focus (refine Lw.aw_nil ?_; apply Lw.callPost_2; refine And.intro ?_ ?_; refine And.intro ?_ ?_; (with_reducible rfl); refine And.intro ?_ ?_; (with_reducible rfl); refine And.intro ?_ ?_; rfl; exact True.intro; refine And.intro ?_ ?_; rfl; refine And.intro ?_ ?_; refine And.intro ?_ ?_; assumption; assumption; rintro ⟨⟩ -; refine And.intro ?_ ?_; rfl; refine Lw.outP_eq rfl ?_; refine Exists.intro () ?_; refine And.intro ?_ ?_; refine And.intro ?_ ?_; (with_reducible rfl); exact True.intro; exact True.intro))
end
section
variable {P : Program} {w : World} {K : PySem.W.Frag} {mg : Str → Option Value} {base : Heap} {f : Addr} {fd : FuncData} {C Eb : Addr}
theorem isq_nil : IsSeq (.lst []) [] := isSeq_l (ns := [])
theorem ok_law (hb : Blt mg blts) (F : Fun K "law" "law" s_law f fd) (d1 : Def P w K mg base "_law_hand" 2 cHand) (d2 : Def P w K mg base "_law_take" 1 cTake) (d3 : Def P w K mg base "_law_members" 2 cMembers) (d4 : Mkd P w K mg base "Beats" C 3 (cInit C)) (d5 : Def P w K mg base "_law_right" 8 (cRight C)) (d6 : Def P w K mg base "_law_all_refused" 10 (cAllRefused C)) (d7 : Def P w K mg base "_law_is_set" 5 (cIsSet C)) (d8 : Dun P w K mg base C "__invert__" 5 (spC K (cInv C))) : FnOk P w K mg base (L2.CX P w) 11 f fd ["script"] (spC K cLaw) := by
  (refine Lw.fn_okC F sc_law (fun _ => rfl) fun script cdv A outer s H E Z hk hr tk po => ?_; have hN := (sc_law).nd)
  have frz_4 : True := trivial
  have frz_5 : True := trivial
  have frz_8 : True := trivial
  (focus (refine Lw.ss_norm (Γ' := [_, _, _, _, _, _, _, _, _, _, _]) rfl ?_; refine Lw.ss_cons ?_; refine Lw.sw_set (i := 1) hN rfl (.inl rfl) ?_; refine Lw.ew_call d1 (hr.mono (by omega)) tk ?_; refine Lw.aw_cons ?_; refine Lw.ew_var (i := 0) rfl (.inl rfl) rfl ?_; refine Lw.aw_cons ?_; refine Lw.ew_int ?_; refine Lw.aw_nil ?_; apply Lw.callPost_2; refine And.intro ?_ ?_; refine And.intro ?_ ?_; (with_reducible rfl); refine And.intro ?_ ?_; (with_reducible rfl); exact True.intro; refine And.intro ?_ ?_; rfl; refine And.intro ?_ ?_; dsimp only [Tst.cHand, Lw.Ct.det]; omega; intro v1; rintro -; refine And.intro ?_ ?_; rfl; refine Lw.outP_eq rfl ?_; refine Lw.ss_norm (Γ' := [_, _, _, _, _, _, _, _, _, _, _]) rfl ?_; refine Lw.ss_cons ?_; refine Lw.sw_set (i := 2) hN rfl (.inl rfl) ?_; refine Lw.ew_op (Lw.opr_or L2.op_add L2.op_cat) ?_; refine Lw.ew_int ?_; refine Lw.ew_call d2 (hr.mono (by omega)) tk ?_; refine Lw.aw_cons ?_; refine Lw.ew_var (i := 1) rfl (.inl rfl) rfl ?_; refine Lw.aw_cons ?_; refine Lw.ew_int ?_; refine Lw.aw_nil ?_; apply Lw.callPost_2; refine And.intro ?_ ?_; refine And.intro ?_ ?_; exact Or.inl rfl; refine And.intro ?_ ?_; (with_reducible rfl); exact True.intro; refine And.intro ?_ ?_; rfl; refine And.intro ?_ ?_; refine And.intro ?_ ?_; omega; omega; rintro ⟨v2, v3⟩; rintro ⟨c1, c2⟩; refine And.intro ?_ ?_; rfl; refine Lw.outP_eq rfl ?_; apply Exists.intro; apply Exists.intro; apply Exists.intro; refine And.intro ?_ ?_; rfl; refine And.intro ?_ ?_; rfl; refine And.intro ?_ ?_; exact Lw.o2_l Lw.o2_add; refine Lw.ss_norm (Γ' := [_, _, _, _, _, _, _, _, _, _, _]) rfl ?_; (show _; rotate_left); (show _; rotate_left)))
  (first | refine Lw.ss_join (fun Γ => ∃ (h : Hand) (L : Int), Γ = [.im (.scr (script.map D.int)), .ow (hd4 h), .im (.int L), .un, .un, .un, .un, .un, .un, .un, .un] ∧ 1 ≤ L ∧ L ≤ 60) ?_ ?_ | refine Lw.ns_join (fun Γ => ∃ (h : Hand) (L : Int), Γ = [.im (.scr (script.map D.int)), .ow (hd4 h), .im (.int L), .un, .un, .un, .un, .un, .un, .un, .un] ∧ 1 ≤ L ∧ L ≤ 60) ?_ ?_)
  · (focus (refine Lw.sw_if ?_; refine Lw.tw_cmp (Lw.opr_or L2.op_eq (L2.op_eqD hr.units)) ?_; refine Lw.ew_call d2 (hr.mono (by omega)) tk ?_; refine Lw.aw_cons ?_; refine Lw.ew_var (i := 1) rfl (.inl rfl) rfl ?_; refine Lw.aw_cons ?_; refine Lw.ew_int ?_; refine Lw.aw_nil ?_; apply Lw.callPost_2; refine And.intro ?_ ?_; refine And.intro ?_ ?_; exact Or.inl rfl; refine And.intro ?_ ?_; (with_reducible rfl); exact True.intro; refine And.intro ?_ ?_; rfl; refine And.intro ?_ ?_; refine And.intro ?_ ?_; omega; omega; rintro ⟨v4, v5⟩; rintro ⟨c3, c4⟩; refine And.intro ?_ ?_; rfl; refine Lw.outP_eq rfl ?_; refine Lw.ew_int ?_; apply Exists.intro; apply Exists.intro; apply Exists.intro; refine And.intro ?_ ?_; rfl; refine And.intro ?_ ?_; rfl; refine And.intro ?_ ?_; exact Lw.o2_l Lw.o2_eqI; refine And.intro ?_ ?_; intro c5; simp only [decide_eq_true_eq] at c5; refine Lw.ss_norm (Γ' := [_, _, _, _, _, _, _, _, _, _, _]) rfl ?_; refine Lw.ss_cons ?_; refine Lw.sw_set (i := 2) hN rfl (.inl rfl) ?_; refine Lw.ew_op (Lw.opr_or L2.op_add L2.op_cat) ?_; refine Lw.ew_int ?_; refine Lw.ew_call d2 (hr.mono (by omega)) tk ?_; refine Lw.aw_cons ?_; refine Lw.ew_var (i := 1) rfl (.inl rfl) rfl ?_; refine Lw.aw_cons ?_; refine Lw.ew_int ?_; refine Lw.aw_nil ?_; apply Lw.callPost_2; refine And.intro ?_ ?_; refine And.intro ?_ ?_; exact Or.inl rfl; refine And.intro ?_ ?_; (with_reducible rfl); exact True.intro; refine And.intro ?_ ?_; rfl; refine And.intro ?_ ?_; refine And.intro ?_ ?_; omega; omega; rintro ⟨v6, v7⟩; rintro ⟨c6, c7⟩; refine And.intro ?_ ?_; rfl; refine Lw.outP_eq rfl ?_; apply Exists.intro; apply Exists.intro; apply Exists.intro; refine And.intro ?_ ?_; rfl; refine And.intro ?_ ?_; rfl; refine And.intro ?_ ?_; exact Lw.o2_l Lw.o2_add; refine Lw.ss_norm (Γ' := [_, _, _, _, _, _, _, _, _, _, _]) rfl ?_; refine Lw.ss_nil ?_; apply Exists.intro; refine And.intro ?_ ?_; apply Exists.intro; apply Exists.intro; refine And.intro ?_ ?_; rfl; refine And.intro ?_ ?_; (show _; rotate_left); (show _; rotate_left); (show _; rotate_left); (show _; rotate_left); refine Lw.fgt_eq rfl ?_; refine Lw.fgt_eq rfl ?_; refine Lw.fgt_eq rfl ?_; refine Lw.fgt_un ?_; refine Lw.fgt_un ?_; refine Lw.fgt_un ?_; refine Lw.fgt_un ?_; refine Lw.fgt_un ?_; refine Lw.fgt_un ?_; refine Lw.fgt_un ?_; refine Lw.fgt_un ?_; exact Lw.fgt_nil; intro c5; simp only [decide_eq_false_iff_not] at c5; refine Lw.ss_norm (Γ' := [_, _, _, _, _, _, _, _, _, _, _]) rfl ?_; refine Lw.ss_nil ?_; apply Exists.intro; refine And.intro ?_ ?_; apply Exists.intro; apply Exists.intro; refine And.intro ?_ ?_; rfl; refine And.intro ?_ ?_; (show _; rotate_left); (show _; rotate_left); (show _; rotate_left); (show _; rotate_left); refine Lw.fgt_eq rfl ?_; refine Lw.fgt_eq rfl ?_; refine Lw.fgt_eq rfl ?_; refine Lw.fgt_un ?_; refine Lw.fgt_un ?_; refine Lw.fgt_un ?_; refine Lw.fgt_un ?_; refine Lw.fgt_un ?_; refine Lw.fgt_un ?_; refine Lw.fgt_un ?_; refine Lw.fgt_un ?_; exact Lw.fgt_nil; omega; omega; omega; omega))
  · rintro Γ' ⟨h, L, rfl, hL1, hL2⟩
    (focus (refine Lw.ss_cons ?_; refine Lw.sw_set (i := 3) hN rfl (.inl rfl) ?_; refine Lw.ew_op (Lw.opr_or L2.op_add L2.op_cat) ?_; refine Lw.ew_op L2.op_mod ?_; refine Lw.ew_callTy L2.call_int1 rfl (hb.get (by decide)) Lw.bb_int ?_; refine Lw.aw_cons ?_; refine Lw.ew_op (Lw.opr_or L2.op_add L2.op_cat) ?_; refine Lw.ew_var (i := 2) rfl (.inl rfl) rfl ?_; refine Lw.ew_call d2 (hr.mono (by omega)) tk ?_; refine Lw.aw_cons ?_; refine Lw.ew_var (i := 1) rfl (.inl rfl) rfl ?_; refine Lw.aw_cons ?_; refine Lw.ew_int ?_; refine Lw.aw_nil ?_; apply Lw.callPost_2; refine And.intro ?_ ?_; refine And.intro ?_ ?_; exact Or.inl rfl; refine And.intro ?_ ?_; (with_reducible rfl); exact True.intro; refine And.intro ?_ ?_; rfl; refine And.intro ?_ ?_; refine And.intro ?_ ?_; omega; omega; rintro ⟨v4, v5⟩; rintro ⟨c3, c4⟩; refine And.intro ?_ ?_; rfl; refine Lw.outP_eq rfl ?_; apply Exists.intro; apply Exists.intro; apply Exists.intro; refine And.intro ?_ ?_; rfl; refine And.intro ?_ ?_; rfl; refine And.intro ?_ ?_; exact Lw.o2_l Lw.o2_add; refine Lw.aw_nil ?_; apply Exists.intro; apply Exists.intro; refine And.intro ?_ ?_; apply Lw.views_cons rfl; exact Lw.views_nil; refine And.intro ?_ ?_; exact Lw.on_int; refine Lw.ew_int ?_; apply Exists.intro; apply Exists.intro; apply Exists.intro; refine And.intro ?_ ?_; rfl; refine And.intro ?_ ?_; rfl; refine And.intro ?_ ?_; refine Lw.o2_mod ?_; omega; refine Lw.ew_int ?_; apply Exists.intro; apply Exists.intro; apply Exists.intro; refine And.intro ?_ ?_; rfl; refine And.intro ?_ ?_; rfl; refine And.intro ?_ ?_; exact Lw.o2_l Lw.o2_add; refine Lw.ss_norm (Γ' := [_, _, _, _, _, _, _, _, _, _, _]) rfl ?_; refine Lw.ss_cons ?_; refine Lw.sw_set (i := 4) hN rfl (.inr rfl) ?_; refine Lw.ew_callT d3 (hr.mono (by omega)) tk ?_; refine Lw.at_here (ix := [2]) ?_ (Lw.ap_cons (i := 2) rfl (by first | exact .inl rfl | exact .inr rfl | exact .inr (.inl rfl) | exact .inr (.inr rfl)) (Lw.ap_nil)); refine Lw.ew_call d1 (hr.mono (by omega)) tk ?_; refine Lw.aw_cons ?_; refine Lw.ew_var (i := 0) rfl (.inl rfl) rfl ?_; refine Lw.aw_cons ?_; refine Lw.ew_int ?_; refine Lw.aw_nil ?_; apply Lw.callPost_2; refine And.intro ?_ ?_; refine And.intro ?_ ?_; (with_reducible rfl); refine And.intro ?_ ?_; (with_reducible rfl); exact True.intro; refine And.intro ?_ ?_; rfl; refine And.intro ?_ ?_; dsimp only [Tst.cHand, Lw.Ct.det]; omega; intro v6; rintro -; refine And.intro ?_ ?_; rfl; refine Lw.outP_eq rfl ?_; apply Exists.intro; refine And.intro ?_ ?_; rfl; refine And.intro ?_ ?_; exact Lw.known_cons rfl trivial (Lw.known_nil); apply Lw.callPost_2; refine And.intro ?_ ?_; refine And.intro ?_ ?_; exact Or.inl rfl; refine And.intro ?_ ?_; (with_reducible rfl); exact True.intro; refine And.intro ?_ ?_; rfl; refine And.intro ?_ ?_; refine And.intro ?_ ?_; assumption; assumption; rintro ⟨v7, v8⟩; intro c5; dsimp only [Tst.cMembers] at c5; refine And.intro ?_ ?_; rfl; refine Lw.outP_eq rfl ?_; refine And.intro ?_ ?_; exact List.cons_ne_nil _ _; refine And.intro ?_ ?_; exact True.intro; refine Lw.ss_norm (Γ' := [_, _, _, _, _, _, _, _, _, _, _]) rfl ?_; refine Lw.ss_frz (i := 4) rfl ?_; refine Lw.ss_norm (Γ' := [_, _, _, _, _, _, _, _, _, _, _]) rfl ?_; refine Lw.ss_cons ?_; refine Lw.sw_set (i := 5) hN rfl (.inr rfl) ?_; refine Lw.ew_callT d3 (hr.mono (by omega)) tk ?_; refine Lw.at_here (ix := [2]) ?_ (Lw.ap_cons (i := 2) rfl (by first | exact .inl rfl | exact .inr rfl | exact .inr (.inl rfl) | exact .inr (.inr rfl)) (Lw.ap_nil)); refine Lw.ew_call d1 (hr.mono (by omega)) tk ?_; refine Lw.aw_cons ?_; refine Lw.ew_var (i := 0) rfl (.inl rfl) rfl ?_; refine Lw.aw_cons ?_; refine Lw.ew_int ?_; refine Lw.aw_nil ?_; apply Lw.callPost_2; refine And.intro ?_ ?_; refine And.intro ?_ ?_; (with_reducible rfl); refine And.intro ?_ ?_; (with_reducible rfl); exact True.intro; refine And.intro ?_ ?_; rfl; refine And.intro ?_ ?_; dsimp only [Tst.cHand, Lw.Ct.det]; omega; intro v9; rintro -; refine And.intro ?_ ?_; rfl; refine Lw.outP_eq rfl ?_; apply Exists.intro; refine And.intro ?_ ?_; rfl; refine And.intro ?_ ?_; exact Lw.known_cons rfl trivial (Lw.known_nil); apply Lw.callPost_2; refine And.intro ?_ ?_; refine And.intro ?_ ?_; exact Or.inl rfl; refine And.intro ?_ ?_; (with_reducible rfl); exact True.intro; refine And.intro ?_ ?_; rfl; refine And.intro ?_ ?_; refine And.intro ?_ ?_; assumption; assumption; rintro ⟨v10, v11⟩; intro c6; dsimp only [Tst.cMembers] at c6; refine And.intro ?_ ?_; rfl; refine Lw.outP_eq rfl ?_; refine And.intro ?_ ?_; exact List.cons_ne_nil _ _; refine And.intro ?_ ?_; exact True.intro; refine Lw.ss_norm (Γ' := [_, _, _, _, _, _, _, _, _, _, _]) rfl ?_; refine Lw.ss_frz (i := 5) rfl ?_; refine Lw.ss_norm (Γ' := [_, _, _, _, _, _, _, _, _, _, _]) rfl ?_; refine Lw.ss_cons ?_; refine Lw.sw_set (i := 6) hN rfl (.inl rfl) ?_; refine Lw.ew_make d4 (hr.mono (by omega)) tk ?_; refine Lw.aw_cons ?_; refine Lw.ew_var (i := 2) rfl (.inl rfl) rfl ?_; refine Lw.aw_cons ?_; refine Lw.ew_callTy L2.call_list_of rfl (hb.get (by decide)) Lw.bb_list ?_; refine Lw.aw_cons ?_; refine Lw.ew_var (i := 4) rfl (.inr (.inl rfl)) rfl ?_; refine Lw.aw_nil ?_; apply Exists.intro; apply Exists.intro; refine And.intro ?_ ?_; apply Lw.views_cons rfl; exact Lw.views_nil; refine And.intro ?_ ?_; exact Lw.on_listL; refine Lw.aw_nil ?_; apply Lw.makePost_3; refine And.intro ?_ ?_; refine And.intro ?_ ?_; exact Or.inl rfl; refine And.intro ?_ ?_; (with_reducible rfl); refine And.intro ?_ ?_; rfl; exact True.intro; refine And.intro ?_ ?_; rfl; refine And.intro ?_ ?_; refine And.intro ?_ ?_; exact isSeq_l; refine And.intro ?_ ?_; assumption; assumption; rintro ⟨⟩ -; refine And.intro ?_ ?_; rfl; refine Lw.outP_eq rfl ?_; refine And.intro ?_ ?_; rfl; apply Exists.intro; refine And.intro ?_ ?_; rfl; refine Lw.ss_norm (Γ' := [_, _, _, _, _, _, _, _, _, _, _]) rfl ?_; refine Lw.ss_cons ?_; refine Lw.sw_set (i := 7) hN rfl (.inl rfl) ?_; refine Lw.ew_make d4 (hr.mono (by omega)) tk ?_; refine Lw.aw_cons ?_; refine Lw.ew_var (i := 2) rfl (.inl rfl) rfl ?_; refine Lw.aw_cons ?_; refine Lw.ew_callTy L2.call_list_of rfl (hb.get (by decide)) Lw.bb_list ?_; refine Lw.aw_cons ?_; refine Lw.ew_var (i := 5) rfl (.inr (.inl rfl)) rfl ?_; refine Lw.aw_nil ?_; apply Exists.intro; apply Exists.intro; refine And.intro ?_ ?_; apply Lw.views_cons rfl; exact Lw.views_nil; refine And.intro ?_ ?_; exact Lw.on_listL; refine Lw.aw_nil ?_; apply Lw.makePost_3; refine And.intro ?_ ?_; refine And.intro ?_ ?_; exact Or.inl rfl; refine And.intro ?_ ?_; (with_reducible rfl); refine And.intro ?_ ?_; rfl; exact True.intro; refine And.intro ?_ ?_; rfl; refine And.intro ?_ ?_; refine And.intro ?_ ?_; exact isSeq_l; refine And.intro ?_ ?_; assumption; assumption; rintro ⟨⟩ -; refine And.intro ?_ ?_; rfl; refine Lw.outP_eq rfl ?_; refine And.intro ?_ ?_; rfl; apply Exists.intro; refine And.intro ?_ ?_; rfl; refine Lw.ss_norm (Γ' := [_, _, _, _, _, _, _, _, _, _, _]) rfl ?_; refine Lw.ss_cons ?_; refine Lw.sw_if ?_; refine Lw.tw_pw ?_; refine Lw.ww_or ?_; refine Lw.tw_not ?_; refine Lw.tw_val ?_; refine Lw.ew_call d5 (hr.mono (by omega)) tk ?_; refine Lw.aw_cons ?_; refine Lw.ew_var (i := 6) rfl (.inl rfl) rfl ?_; refine Lw.aw_cons ?_; refine Lw.ew_var (i := 7) rfl (.inl rfl) rfl ?_; refine Lw.aw_cons ?_; refine Lw.ew_var (i := 4) rfl (.inr (.inl rfl)) rfl ?_; refine Lw.aw_cons ?_; refine Lw.ew_var (i := 5) rfl (.inr (.inl rfl)) rfl ?_; refine Lw.aw_cons ?_; refine Lw.ew_var (i := 2) rfl (.inl rfl) rfl ?_; refine Lw.aw_nil ?_; apply Lw.callPost_5; refine And.intro ?_ ?_; refine And.intro ?_ ?_; rfl; refine And.intro ?_ ?_; rfl; refine And.intro ?_ ?_; rfl; refine And.intro ?_ ?_; rfl; refine And.intro ?_ ?_; (with_reducible rfl); exact True.intro; refine And.intro ?_ ?_; rfl; refine And.intro ?_ ?_; refine And.intro ?_ ?_; assumption; refine And.intro ?_ ?_; assumption; refine And.intro ?_ ?_; exact blw_bits (by omega); refine And.intro ?_ ?_; exact blw_bits (by omega); refine And.intro ?_ ?_; exact tells_bts (by omega) (by assumption); exact tells_bts (by omega) (by assumption); rintro ⟨⟩ -; refine And.intro ?_ ?_; rfl; refine Lw.outP_eq rfl ?_; apply Exists.intro; apply Exists.intro; refine And.intro ?_ ?_; rfl; refine And.intro ?_ ?_; rfl; refine And.intro ?_ ?_; intro c7; simp only [Bool.not_true] at c7; refine Lw.ww_or1 ?_; refine Lw.tw_not ?_; refine Lw.tw_val ?_; refine Lw.ew_call d5 (hr.mono (by omega)) tk ?_; refine Lw.aw_cons ?_; refine Lw.ew_var (i := 7) rfl (.inl rfl) rfl ?_; refine Lw.aw_cons ?_; refine Lw.ew_var (i := 6) rfl (.inl rfl) rfl ?_; refine Lw.aw_cons ?_; refine Lw.ew_var (i := 5) rfl (.inr (.inl rfl)) rfl ?_; refine Lw.aw_cons ?_; refine Lw.ew_var (i := 4) rfl (.inr (.inl rfl)) rfl ?_; refine Lw.aw_cons ?_; refine Lw.ew_var (i := 2) rfl (.inl rfl) rfl ?_; refine Lw.aw_nil ?_; apply Lw.callPost_5; refine And.intro ?_ ?_; refine And.intro ?_ ?_; rfl; refine And.intro ?_ ?_; rfl; refine And.intro ?_ ?_; rfl; refine And.intro ?_ ?_; rfl; refine And.intro ?_ ?_; (with_reducible rfl); exact True.intro; refine And.intro ?_ ?_; rfl; refine And.intro ?_ ?_; refine And.intro ?_ ?_; assumption; refine And.intro ?_ ?_; assumption; refine And.intro ?_ ?_; exact blw_bits (by omega); refine And.intro ?_ ?_; exact blw_bits (by omega); refine And.intro ?_ ?_; exact tells_bts (by omega) (by assumption); exact tells_bts (by omega) (by assumption); rintro ⟨⟩ -; refine And.intro ?_ ?_; rfl; refine Lw.outP_eq rfl ?_; apply Exists.intro; apply Exists.intro; refine And.intro ?_ ?_; rfl; refine And.intro ?_ ?_; rfl; refine And.intro ?_ ?_; intro c8; simp only [Bool.not_true, Bool.false_eq_true] at c8; intro c8; simp only [Bool.not_true] at c8; refine Lw.ss_norm (Γ' := [_, _, _, _, _, _, _, _, _, _, _]) rfl ?_; refine Lw.ss_nil ?_; refine Lw.ss_cons ?_; refine Lw.sw_if ?_; refine Lw.tw_pw ?_; refine Lw.ww_or ?_; refine Lw.tw_not ?_; refine Lw.tw_val ?_; refine Lw.ew_call d5 (hr.mono (by omega)) tk ?_; refine Lw.aw_cons ?_; refine Lw.ew_var (i := 6) rfl (.inl rfl) rfl ?_; refine Lw.aw_cons ?_; refine Lw.ew_var (i := 6) rfl (.inl rfl) rfl ?_; refine Lw.aw_cons ?_; refine Lw.ew_var (i := 4) rfl (.inr (.inl rfl)) rfl ?_; refine Lw.aw_cons ?_; refine Lw.ew_var (i := 4) rfl (.inr (.inl rfl)) rfl ?_; refine Lw.aw_cons ?_; refine Lw.ew_var (i := 2) rfl (.inl rfl) rfl ?_; refine Lw.aw_nil ?_; apply Lw.callPost_5; refine And.intro ?_ ?_; refine And.intro ?_ ?_; rfl; refine And.intro ?_ ?_; rfl; refine And.intro ?_ ?_; rfl; refine And.intro ?_ ?_; rfl; refine And.intro ?_ ?_; (with_reducible rfl); exact True.intro; refine And.intro ?_ ?_; rfl; refine And.intro ?_ ?_; refine And.intro ?_ ?_; assumption; refine And.intro ?_ ?_; assumption; refine And.intro ?_ ?_; exact blw_bits (by omega); refine And.intro ?_ ?_; exact blw_bits (by omega); refine And.intro ?_ ?_; exact tells_bts (by omega) (by assumption); exact tells_bts (by omega) (by assumption); rintro ⟨⟩ -; refine And.intro ?_ ?_; rfl; refine Lw.outP_eq rfl ?_; apply Exists.intro; apply Exists.intro; refine And.intro ?_ ?_; rfl; refine And.intro ?_ ?_; rfl; refine And.intro ?_ ?_; intro c9; simp only [Bool.not_true] at c9; refine Lw.ww_or1 ?_; refine Lw.tw_not ?_; refine Lw.tw_val ?_; refine Lw.ew_call d5 (hr.mono (by omega)) tk ?_; refine Lw.aw_cons ?_; refine Lw.ew_invO (by assumption) (hr.mono (by omega)) tk ?_; refine Lw.ew_var (i := 7) rfl (.inl rfl) rfl ?_; refine And.intro ?_ ?_; apply Exists.intro; rfl; apply Lw.callPost_2; refine And.intro ?_ ?_; refine And.intro ?_ ?_; rfl; exact True.intro; refine And.intro ?_ ?_; rfl; refine And.intro ?_ ?_; refine And.intro ?_ ?_; assumption; refine And.intro ?_ ?_; assumption; exact blw_bits (by omega); rintro ⟨⟩ -; refine And.intro ?_ ?_; rfl; refine Lw.outP_eq rfl ?_; refine Lw.aw_cons ?_; refine Lw.ew_var (i := 7) rfl (.inl rfl) rfl ?_; refine Lw.aw_cons ?_; refine Lw.ew_lc (own := [("t", 10)]) rfl hN (L2.blkOk_by (N := ["script", "hand", "length", "unlike", "xs", "ys", "a", "b", "zs", "third", "t"]) (sc := (defScope s_law)) (by decide +kernel)) ?_; refine Lw.iw_rng1 (hb.get (by decide)) ?_; refine Lw.aw_cons ?_; refine Lw.ew_var (i := 2) rfl (.inl rfl) rfl ?_; refine Lw.aw_nil ?_; apply Exists.intro; refine And.intro ?_ ?_; apply Lw.views_cons rfl; exact Lw.views_nil; refine And.intro ?_ ?_; refine And.intro ?_ ?_; omega; omega; (show _; rotate_left); intro c9; simp only [Bool.not_true, Bool.false_eq_true] at c9; intro c7; simp only [Bool.not_true, Bool.false_eq_true] at c7; (show _; rotate_left)))
    have hxT := tells_bts hL1 c5
    have hyT := tells_bts hL1 c6
    have hx5 := bts_len c5
    have hy5 := bts_len c6
    refine Lw.lc_intro (fun k acc Γ => acc = (bl0 (invN L (bitsN L v10)) k).map D.int ∧ Γ = [.im (.scr (script.map D.int)), .ow (hd4 v5), .im (.int L), .im (.int ((L + v4) % 60 + 1)), .im (.lst (v7.map D.int)), .im (.lst (v10.map D.int)), .im (beatsD C L (bitsN L v7)), .im (beatsD C L (bitsN L v10)), .un, .un, .un]) ?_ ?_ ?_
    · refine ⟨by rw [bl0_zero]; rfl, ?_⟩
      (focus (refine Lw.cons_eq rfl ?_; refine Lw.cons_eq rfl ?_; refine Lw.cons_eq rfl ?_; refine Lw.cons_eq rfl ?_; refine Lw.cons_eq rfl ?_; refine Lw.cons_eq rfl ?_; refine Lw.cons_eq rfl ?_; refine Lw.cons_eq rfl ?_; refine Lw.cons_eq rfl ?_; refine Lw.cons_eq rfl ?_; refine Lw.cons_eq rfl ?_; rfl))
    · rintro k acc Γ' hk ⟨rfl, rfl⟩
      have hl := bl0_len (invN L (bitsN L v10)) k
      have h1 := tells_dec hyT (k := k) (by omega)
      have h2 := inv_test hL1 (A := bitsN L v10) (k := k) (by omega)
      (focus (refine And.intro ?_ ?_; apply Lw.noOwn_cons rfl rfl; exact Lw.noOwn_nil; intro Z'; intro s; intro H; intro C; intro cl; intro fp; refine Lw.gc_name (i := 10) hN rfl (.inl rfl) (by decide) ?_; intro s; intro H; intro C; intro cl; intro fp; refine Lw.tc_one ?_; refine Lw.tw_cmp L2.op_notIn_seq ?_; refine Lw.ew_var (i := 10) rfl (.inl rfl) rfl ?_; refine Lw.ew_var (i := 5) rfl (.inr (.inl rfl)) rfl ?_; apply Exists.intro; apply Exists.intro; apply Exists.intro; refine And.intro ?_ ?_; rfl; refine And.intro ?_ ?_; rfl; refine And.intro ?_ ?_; exact Lw.o2_ninI; refine And.intro ?_ ?_; intro c10; simp only [Bool.not_eq_true', decide_eq_false_iff_not] at c10; intro s; intro H; intro C; intro cl; intro fp; refine Lw.ew_var (i := 10) rfl (.inl rfl) rfl ?_; refine And.intro ?_ ?_; refine And.intro ?_ ?_; apply Exists.intro; rfl; exact True.intro; refine And.intro ?_ ?_; (simp only [List.length_map, List.length_append, List.length_nil, List.length_cons, List.length_set, List.length_replicate, List.length_range, List.length_take, List.length_reverse]; omega); refine And.intro ?_ ?_; (show _; rotate_left); refine Lw.cons_eq rfl ?_; refine Lw.cons_eq rfl ?_; refine Lw.cons_eq rfl ?_; refine Lw.cons_eq rfl ?_; refine Lw.cons_eq rfl ?_; refine Lw.cons_eq rfl ?_; refine Lw.cons_eq rfl ?_; refine Lw.cons_eq rfl ?_; refine Lw.cons_eq rfl ?_; refine Lw.cons_eq rfl ?_; refine Lw.cons_eq rfl ?_; rfl; intro c10; simp only [Bool.not_eq_false', decide_eq_true_eq] at c10; refine And.intro ?_ ?_; refine And.intro ?_ ?_; apply Exists.intro; rfl; exact True.intro; refine And.intro ?_ ?_; (show _; rotate_left); refine Lw.cons_eq rfl ?_; refine Lw.cons_eq rfl ?_; refine Lw.cons_eq rfl ?_; refine Lw.cons_eq rfl ?_; refine Lw.cons_eq rfl ?_; refine Lw.cons_eq rfl ?_; refine Lw.cons_eq rfl ?_; refine Lw.cons_eq rfl ?_; refine Lw.cons_eq rfl ?_; refine Lw.cons_eq rfl ?_; refine Lw.cons_eq rfl ?_; rfl; (show _; rotate_left); (show _; rotate_left)))
      all_goals simp [bl0_succ, h2, h1, *]
    · rintro acc Γ' ⟨rfl, rfl⟩
      rw [bl0_bl]
      (focus (refine Lw.aw_cons ?_; refine Lw.ew_var (i := 5) rfl (.inr (.inl rfl)) rfl ?_; refine Lw.aw_cons ?_; refine Lw.ew_var (i := 2) rfl (.inl rfl) rfl ?_; refine Lw.aw_nil ?_; apply Lw.callPost_5; refine And.intro ?_ ?_; refine And.intro ?_ ?_; (with_reducible rfl); refine And.intro ?_ ?_; rfl; refine And.intro ?_ ?_; rfl; refine And.intro ?_ ?_; rfl; refine And.intro ?_ ?_; (with_reducible rfl); exact True.intro; refine And.intro ?_ ?_; rfl; refine And.intro ?_ ?_; refine And.intro ?_ ?_; assumption; refine And.intro ?_ ?_; assumption; refine And.intro ?_ ?_; exact invN_blw (by assumption); refine And.intro ?_ ?_; exact blw_bits (by omega); refine And.intro ?_ ?_; exact tells_compl (by omega); assumption; rintro ⟨⟩ -; refine And.intro ?_ ?_; rfl; refine Lw.outP_eq rfl ?_; apply Exists.intro; apply Exists.intro; refine And.intro ?_ ?_; rfl; refine And.intro ?_ ?_; rfl; refine And.intro ?_ ?_; intro c10; simp only [Bool.not_true, Bool.false_eq_true] at c10; intro c10; simp only [Bool.not_true] at c10; refine Lw.ss_norm (Γ' := [_, _, _, _, _, _, _, _, _, _, _]) rfl ?_; refine Lw.ss_nil ?_; refine Lw.ss_cons ?_; refine Lw.sw_set (i := 8) hN rfl (.inl rfl) ?_; refine Lw.ew_callT d3 (hr.mono (by omega)) tk ?_; refine Lw.at_here (ix := [3]) ?_ (Lw.ap_cons (i := 3) rfl (by first | exact .inl rfl | exact .inr rfl | exact .inr (.inl rfl) | exact .inr (.inr rfl)) (Lw.ap_nil)); refine Lw.ew_call d1 (hr.mono (by omega)) tk ?_; refine Lw.aw_cons ?_; refine Lw.ew_var (i := 0) rfl (.inl rfl) rfl ?_; refine Lw.aw_cons ?_; refine Lw.ew_int ?_; refine Lw.aw_nil ?_; apply Lw.callPost_2; refine And.intro ?_ ?_; refine And.intro ?_ ?_; (with_reducible rfl); refine And.intro ?_ ?_; (with_reducible rfl); exact True.intro; refine And.intro ?_ ?_; rfl; refine And.intro ?_ ?_; dsimp only [Tst.cHand, Lw.Ct.det]; omega; intro v12; rintro -; refine And.intro ?_ ?_; rfl; refine Lw.outP_eq rfl ?_; apply Exists.intro; refine And.intro ?_ ?_; rfl; refine And.intro ?_ ?_; exact Lw.known_cons rfl trivial (Lw.known_nil); apply Lw.callPost_2; refine And.intro ?_ ?_; refine And.intro ?_ ?_; exact Or.inl rfl; refine And.intro ?_ ?_; (with_reducible rfl); exact True.intro; refine And.intro ?_ ?_; rfl; refine And.intro ?_ ?_; refine And.intro ?_ ?_; omega; omega; rintro ⟨v13, v14⟩; intro c11; dsimp only [Tst.cMembers] at c11; refine And.intro ?_ ?_; rfl; refine Lw.outP_eq rfl ?_; refine And.intro ?_ ?_; exact List.cons_ne_nil _ _; refine And.intro ?_ ?_; exact True.intro; refine Lw.ss_norm (Γ' := [_, _, _, _, _, _, _, _, _, _, _]) rfl ?_; refine Lw.ss_frz (i := 8) rfl ?_; refine Lw.ss_norm (Γ' := [_, _, _, _, _, _, _, _, _, _, _]) rfl ?_; refine Lw.ss_cons ?_; refine Lw.sw_set (i := 9) hN rfl (.inl rfl) ?_; refine Lw.ew_make d4 (hr.mono (by omega)) tk ?_; refine Lw.aw_cons ?_; refine Lw.ew_var (i := 3) rfl (.inl rfl) rfl ?_; refine Lw.aw_cons ?_; refine Lw.ew_callTy L2.call_list_of rfl (hb.get (by decide)) Lw.bb_list ?_; refine Lw.aw_cons ?_; refine Lw.ew_var (i := 8) rfl (.inl rfl) rfl ?_; refine Lw.aw_nil ?_; apply Exists.intro; apply Exists.intro; refine And.intro ?_ ?_; apply Lw.views_cons rfl; exact Lw.views_nil; refine And.intro ?_ ?_; exact Lw.on_listL; refine Lw.aw_nil ?_; apply Lw.makePost_3; refine And.intro ?_ ?_; refine And.intro ?_ ?_; exact Or.inl rfl; refine And.intro ?_ ?_; (with_reducible rfl); refine And.intro ?_ ?_; rfl; exact True.intro; refine And.intro ?_ ?_; rfl; refine And.intro ?_ ?_; refine And.intro ?_ ?_; exact isSeq_l; refine And.intro ?_ ?_; omega; omega; rintro ⟨⟩ -; refine And.intro ?_ ?_; rfl; refine Lw.outP_eq rfl ?_; refine And.intro ?_ ?_; rfl; apply Exists.intro; refine And.intro ?_ ?_; rfl; refine Lw.ss_norm (Γ' := [_, _, _, _, _, _, _, _, _, _, _]) rfl ?_; refine Lw.ss_cons ?_; refine Lw.sw_if ?_; refine Lw.tw_pw ?_; refine Lw.ww_or ?_; refine Lw.tw_not ?_; refine Lw.tw_val ?_; refine Lw.ew_call d6 hr tk ?_; refine Lw.aw_cons ?_; refine Lw.ew_var (i := 6) rfl (.inl rfl) rfl ?_; refine Lw.aw_cons ?_; refine Lw.ew_var (i := 9) rfl (.inl rfl) rfl ?_; refine Lw.aw_nil ?_; apply Lw.callPost_4; refine And.intro ?_ ?_; refine And.intro ?_ ?_; (with_reducible rfl); refine And.intro ?_ ?_; rfl; exact True.intro; refine And.intro ?_ ?_; rfl; refine And.intro ?_ ?_; refine And.intro ?_ ?_; omega; refine And.intro ?_ ?_; assumption; refine And.intro ?_ ?_; assumption; refine And.intro ?_ ?_; exact blw_bits (by omega); refine And.intro ?_ ?_; omega; refine And.intro ?_ ?_; omega; exact blw_bits (by omega); rintro ⟨⟩ -; refine And.intro ?_ ?_; rfl; refine Lw.outP_eq rfl ?_; apply Exists.intro; apply Exists.intro; refine And.intro ?_ ?_; rfl; refine And.intro ?_ ?_; rfl; refine And.intro ?_ ?_; intro c12; simp only [Bool.not_true] at c12; refine Lw.ww_or1 ?_; refine Lw.tw_not ?_; refine Lw.tw_val ?_; refine Lw.ew_call d6 hr tk ?_; refine Lw.aw_cons ?_; refine Lw.ew_var (i := 7) rfl (.inl rfl) rfl ?_; refine Lw.aw_cons ?_; refine Lw.ew_make d4 (hr.mono (by omega)) tk ?_; refine Lw.aw_cons ?_; refine Lw.ew_var (i := 3) rfl (.inl rfl) rfl ?_; refine Lw.aw_cons ?_; refine Lw.ew_listRng1 rfl (hb.get (by decide)) (hb.get (by decide)) ?_; refine Lw.aw_cons ?_; refine Lw.ew_var (i := 3) rfl (.inl rfl) rfl ?_; refine Lw.aw_nil ?_; apply Exists.intro; refine And.intro ?_ ?_; apply Lw.views_cons rfl; exact Lw.views_nil; refine And.intro ?_ ?_; refine And.intro ?_ ?_; omega; omega; refine Lw.aw_nil ?_; apply Lw.makePost_3; refine And.intro ?_ ?_; refine And.intro ?_ ?_; exact Or.inl rfl; refine And.intro ?_ ?_; (with_reducible rfl); refine And.intro ?_ ?_; rfl; exact True.intro; refine And.intro ?_ ?_; rfl; refine And.intro ?_ ?_; refine And.intro ?_ ?_; exact isSeq_l; refine And.intro ?_ ?_; omega; omega; rintro ⟨⟩ -; refine And.intro ?_ ?_; rfl; refine Lw.outP_eq rfl ?_; refine And.intro ?_ ?_; rfl; apply Exists.intro; refine And.intro ?_ ?_; rfl; refine Lw.aw_nil ?_; apply Lw.callPost_4; refine And.intro ?_ ?_; refine And.intro ?_ ?_; (with_reducible rfl); refine And.intro ?_ ?_; rfl; exact True.intro; refine And.intro ?_ ?_; rfl; refine And.intro ?_ ?_; refine And.intro ?_ ?_; omega; refine And.intro ?_ ?_; assumption; refine And.intro ?_ ?_; assumption; refine And.intro ?_ ?_; exact blw_bits (by omega); refine And.intro ?_ ?_; omega; refine And.intro ?_ ?_; omega; exact blw_bits (by omega); rintro ⟨⟩ -; refine And.intro ?_ ?_; rfl; refine Lw.outP_eq rfl ?_; apply Exists.intro; apply Exists.intro; refine And.intro ?_ ?_; rfl; refine And.intro ?_ ?_; rfl; refine And.intro ?_ ?_; intro c13; simp only [Bool.not_true, Bool.false_eq_true] at c13; intro c13; simp only [Bool.not_true] at c13; refine Lw.ss_norm (Γ' := [_, _, _, _, _, _, _, _, _, _, _]) rfl ?_; refine Lw.ss_nil ?_; refine Lw.ss_cons ?_; refine Lw.sw_if ?_; refine Lw.tw_not ?_; refine Lw.tw_val ?_; refine Lw.ew_call d6 hr tk ?_; refine Lw.aw_cons ?_; refine Lw.ew_make d4 (hr.mono (by omega)) tk ?_; refine Lw.aw_cons ?_; refine Lw.ew_var (i := 2) rfl (.inl rfl) rfl ?_; refine Lw.aw_cons ?_; refine Lw.ew_lst ?_; refine Lw.aw_nil ?_; refine And.intro ?_ ?_; decide; refine Lw.aw_nil ?_; apply Lw.makePost_3; refine And.intro ?_ ?_; refine And.intro ?_ ?_; exact Or.inl rfl; refine And.intro ?_ ?_; (with_reducible rfl); refine And.intro ?_ ?_; rfl; exact True.intro; refine And.intro ?_ ?_; rfl; refine And.intro ?_ ?_; refine And.intro ?_ ?_; exact isq_nil; refine And.intro ?_ ?_; assumption; assumption; rintro ⟨⟩ -; refine And.intro ?_ ?_; rfl; refine Lw.outP_eq rfl ?_; refine And.intro ?_ ?_; rfl; apply Exists.intro; refine And.intro ?_ ?_; rfl; refine Lw.aw_cons ?_; refine Lw.ew_make d4 (hr.mono (by omega)) tk ?_; refine Lw.aw_cons ?_; refine Lw.ew_var (i := 3) rfl (.inl rfl) rfl ?_; refine Lw.aw_cons ?_; refine Lw.ew_lst ?_; refine Lw.aw_nil ?_; refine And.intro ?_ ?_; decide; refine Lw.aw_nil ?_; apply Lw.makePost_3; refine And.intro ?_ ?_; refine And.intro ?_ ?_; exact Or.inl rfl; refine And.intro ?_ ?_; (with_reducible rfl); refine And.intro ?_ ?_; rfl; exact True.intro; refine And.intro ?_ ?_; rfl; refine And.intro ?_ ?_; refine And.intro ?_ ?_; exact isq_nil; refine And.intro ?_ ?_; omega; omega; rintro ⟨⟩ -; refine And.intro ?_ ?_; rfl; refine Lw.outP_eq rfl ?_; refine And.intro ?_ ?_; rfl; apply Exists.intro; refine And.intro ?_ ?_; rfl; refine Lw.aw_nil ?_; apply Lw.callPost_4; refine And.intro ?_ ?_; refine And.intro ?_ ?_; rfl; refine And.intro ?_ ?_; rfl; exact True.intro; refine And.intro ?_ ?_; rfl; refine And.intro ?_ ?_; refine And.intro ?_ ?_; omega; refine And.intro ?_ ?_; assumption; refine And.intro ?_ ?_; assumption; refine And.intro ?_ ?_; exact blw_bits (by omega); refine And.intro ?_ ?_; omega; refine And.intro ?_ ?_; omega; exact blw_bits (by omega); rintro ⟨⟩ -; refine And.intro ?_ ?_; rfl; refine Lw.outP_eq rfl ?_; apply Exists.intro; apply Exists.intro; refine And.intro ?_ ?_; rfl; refine And.intro ?_ ?_; rfl; refine And.intro ?_ ?_; intro c14; simp only [Bool.not_true, Bool.false_eq_true] at c14; intro c14; simp only [Bool.not_true] at c14; refine Lw.ss_norm (Γ' := [_, _, _, _, _, _, _, _, _, _, _]) rfl ?_; refine Lw.ss_nil ?_; refine Lw.ss_cons ?_; refine Lw.sw_if ?_; refine Lw.tw_pw ?_; refine Lw.ww_or ?_; refine Lw.tw_not ?_; refine Lw.tw_val ?_; refine Lw.ew_call d7 (hr.mono (by omega)) tk ?_; refine Lw.aw_cons ?_; refine Lw.ew_var (i := 6) rfl (.inl rfl) rfl ?_; refine Lw.aw_cons ?_; refine Lw.ew_var (i := 2) rfl (.inl rfl) rfl ?_; refine Lw.aw_cons ?_; refine Lw.ew_lc (own := [("t", 10)]) rfl hN (L2.blkOk_by (N := ["script", "hand", "length", "unlike", "xs", "ys", "a", "b", "zs", "third", "t"]) (sc := (defScope s_law)) (by decide +kernel)) ?_; refine Lw.iw_rng1 (hb.get (by decide)) ?_; refine Lw.aw_cons ?_; refine Lw.ew_var (i := 2) rfl (.inl rfl) rfl ?_; refine Lw.aw_nil ?_; apply Exists.intro; refine And.intro ?_ ?_; apply Lw.views_cons rfl; exact Lw.views_nil; refine And.intro ?_ ?_; refine And.intro ?_ ?_; omega; omega; (show _; rotate_left); intro c12; simp only [Bool.not_true, Bool.false_eq_true] at c12; (show _; rotate_left)))
      refine Lw.lc_intro (fun k acc Γ => acc = (bl0 (bitsN L v7) k).map D.int ∧ Γ = [.im (.scr (script.map D.int)), .ow (hd4 v5), .im (.int L), .im (.int ((L + v4) % 60 + 1)), .im (.lst (v7.map D.int)), .im (.lst (v10.map D.int)), .im (beatsD C L (bitsN L v7)), .im (beatsD C L (bitsN L v10)), .im (.lst (v13.map D.int)), .im (beatsD C ((L + v4) % 60 + 1) (bitsN ((L + v4) % 60 + 1) v13)), .un]) ?_ ?_ ?_
      · refine ⟨by rw [bl0_zero]; rfl, ?_⟩
        (focus (refine Lw.cons_eq rfl ?_; refine Lw.cons_eq rfl ?_; refine Lw.cons_eq rfl ?_; refine Lw.cons_eq rfl ?_; refine Lw.cons_eq rfl ?_; refine Lw.cons_eq rfl ?_; refine Lw.cons_eq rfl ?_; refine Lw.cons_eq rfl ?_; refine Lw.cons_eq rfl ?_; refine Lw.cons_eq rfl ?_; refine Lw.cons_eq rfl ?_; rfl))
      · rintro k acc Γ' hk ⟨rfl, rfl⟩
        have hl := bl0_len (bitsN L v7) k
        have h1 := tells_dec hxT (k := k) (by omega)
        (focus (refine And.intro ?_ ?_; apply Lw.noOwn_cons rfl rfl; exact Lw.noOwn_nil; intro Z'; intro s; intro H; intro C; intro cl; intro fp; refine Lw.gc_name (i := 10) hN rfl (.inl rfl) (by decide) ?_; intro s; intro H; intro C; intro cl; intro fp; refine Lw.tc_one ?_; refine Lw.tw_cmp L2.op_in_seq ?_; refine Lw.ew_var (i := 10) rfl (.inl rfl) rfl ?_; refine Lw.ew_var (i := 4) rfl (.inr (.inl rfl)) rfl ?_; apply Exists.intro; apply Exists.intro; apply Exists.intro; refine And.intro ?_ ?_; rfl; refine And.intro ?_ ?_; rfl; refine And.intro ?_ ?_; exact Lw.o2_inI; refine And.intro ?_ ?_; intro c15; simp only [decide_eq_true_eq] at c15; intro s; intro H; intro C; intro cl; intro fp; refine Lw.ew_var (i := 10) rfl (.inl rfl) rfl ?_; refine And.intro ?_ ?_; refine And.intro ?_ ?_; apply Exists.intro; rfl; exact True.intro; refine And.intro ?_ ?_; (simp only [List.length_map, List.length_append, List.length_nil, List.length_cons, List.length_set, List.length_replicate, List.length_range, List.length_take, List.length_reverse]; omega); refine And.intro ?_ ?_; (show _; rotate_left); refine Lw.cons_eq rfl ?_; refine Lw.cons_eq rfl ?_; refine Lw.cons_eq rfl ?_; refine Lw.cons_eq rfl ?_; refine Lw.cons_eq rfl ?_; refine Lw.cons_eq rfl ?_; refine Lw.cons_eq rfl ?_; refine Lw.cons_eq rfl ?_; refine Lw.cons_eq rfl ?_; refine Lw.cons_eq rfl ?_; refine Lw.cons_eq rfl ?_; rfl; intro c15; simp only [decide_eq_false_iff_not] at c15; refine And.intro ?_ ?_; refine And.intro ?_ ?_; apply Exists.intro; rfl; exact True.intro; refine And.intro ?_ ?_; (show _; rotate_left); refine Lw.cons_eq rfl ?_; refine Lw.cons_eq rfl ?_; refine Lw.cons_eq rfl ?_; refine Lw.cons_eq rfl ?_; refine Lw.cons_eq rfl ?_; refine Lw.cons_eq rfl ?_; refine Lw.cons_eq rfl ?_; refine Lw.cons_eq rfl ?_; refine Lw.cons_eq rfl ?_; refine Lw.cons_eq rfl ?_; refine Lw.cons_eq rfl ?_; rfl; (show _; rotate_left); (show _; rotate_left)))
        all_goals simp [bl0_succ, h1, *]
      · rintro acc Γ' ⟨rfl, rfl⟩
        rw [bl0_bl]
        have hs := sorted_bts (L := (L + v4) % 60 + 1) (by omega) c11
        have hs5 := bts_len c11
        (focus (refine Lw.aw_nil ?_; apply Lw.callPost_2; refine And.intro ?_ ?_; refine And.intro ?_ ?_; (with_reducible rfl); refine And.intro ?_ ?_; (with_reducible rfl); refine And.intro ?_ ?_; rfl; exact True.intro; refine And.intro ?_ ?_; rfl; refine And.intro ?_ ?_; refine And.intro ?_ ?_; assumption; assumption; rintro ⟨⟩ -; refine And.intro ?_ ?_; rfl; refine Lw.outP_eq rfl ?_; apply Exists.intro; apply Exists.intro; refine And.intro ?_ ?_; rfl; refine And.intro ?_ ?_; rfl; refine And.intro ?_ ?_; intro c15; simp only [Bool.not_true] at c15; refine Lw.ww_or1 ?_; refine Lw.tw_not ?_; refine Lw.tw_val ?_; refine Lw.ew_call d7 (hr.mono (by omega)) tk ?_; refine Lw.aw_cons ?_; refine Lw.ew_var (i := 9) rfl (.inl rfl) rfl ?_; refine Lw.aw_cons ?_; refine Lw.ew_var (i := 3) rfl (.inl rfl) rfl ?_; refine Lw.aw_cons ?_; refine Lw.ew_callB L2.cr_sortedI rfl (hb.get (by decide)) Lw.bb_sorted ?_; refine Lw.aw_cons ?_; refine Lw.ew_var (i := 8) rfl (.inl rfl) rfl ?_; refine Lw.aw_nil ?_; apply Exists.intro; apply Exists.intro; refine And.intro ?_ ?_; apply Lw.views_cons rfl; exact Lw.views_nil; refine And.intro ?_ ?_; exact Lw.on_sorted; refine Lw.aw_nil ?_; apply Lw.callPost_2; refine And.intro ?_ ?_; refine And.intro ?_ ?_; (with_reducible rfl); refine And.intro ?_ ?_; (with_reducible rfl); refine And.intro ?_ ?_; (show _; rotate_left); exact True.intro; refine And.intro ?_ ?_; rfl; refine And.intro ?_ ?_; refine And.intro ?_ ?_; omega; omega; rintro ⟨⟩ -; refine And.intro ?_ ?_; rfl; refine Lw.outP_eq rfl ?_; apply Exists.intro; apply Exists.intro; refine And.intro ?_ ?_; rfl; refine And.intro ?_ ?_; rfl; refine And.intro ?_ ?_; intro c16; simp only [Bool.not_true, Bool.false_eq_true] at c16; intro c16; simp only [Bool.not_true] at c16; refine Lw.ss_norm (Γ' := [_, _, _, _, _, _, _, _, _, _, _]) rfl ?_; refine Lw.ss_nil ?_; refine Lw.ss_cons ?_; refine Lw.sw_ret ?_; refine Lw.ew_and ?_; refine Lw.ew_call d5 (hr.mono (by omega)) tk ?_; refine Lw.aw_cons ?_; refine Lw.ew_var (i := 6) rfl (.inl rfl) rfl ?_; refine Lw.aw_cons ?_; refine Lw.ew_var (i := 7) rfl (.inl rfl) rfl ?_; refine Lw.aw_cons ?_; refine Lw.ew_var (i := 4) rfl (.inr (.inl rfl)) rfl ?_; refine Lw.aw_cons ?_; refine Lw.ew_var (i := 5) rfl (.inr (.inl rfl)) rfl ?_; refine Lw.aw_cons ?_; refine Lw.ew_var (i := 2) rfl (.inl rfl) rfl ?_; refine Lw.aw_nil ?_; apply Lw.callPost_5; refine And.intro ?_ ?_; refine And.intro ?_ ?_; (with_reducible rfl); refine And.intro ?_ ?_; (with_reducible rfl); refine And.intro ?_ ?_; rfl; refine And.intro ?_ ?_; rfl; refine And.intro ?_ ?_; (with_reducible rfl); exact True.intro; refine And.intro ?_ ?_; rfl; refine And.intro ?_ ?_; refine And.intro ?_ ?_; assumption; refine And.intro ?_ ?_; assumption; refine And.intro ?_ ?_; exact blw_bits (by omega); refine And.intro ?_ ?_; exact blw_bits (by omega); refine And.intro ?_ ?_; assumption; assumption; rintro ⟨⟩ -; refine And.intro ?_ ?_; rfl; refine Lw.outP_eq rfl ?_; apply Exists.intro; refine And.intro ?_ ?_; rfl; refine And.intro ?_ ?_; intro c17; simp only at c17; refine Lw.ew_one ?_; refine Lw.ew_call d5 (hr.mono (by omega)) tk ?_; refine Lw.aw_cons ?_; refine Lw.ew_var (i := 7) rfl (.inl rfl) rfl ?_; refine Lw.aw_cons ?_; refine Lw.ew_var (i := 6) rfl (.inl rfl) rfl ?_; refine Lw.aw_cons ?_; refine Lw.ew_var (i := 5) rfl (.inr (.inl rfl)) rfl ?_; refine Lw.aw_cons ?_; refine Lw.ew_var (i := 4) rfl (.inr (.inl rfl)) rfl ?_; refine Lw.aw_cons ?_; refine Lw.ew_var (i := 2) rfl (.inl rfl) rfl ?_; refine Lw.aw_nil ?_; apply Lw.callPost_5; refine And.intro ?_ ?_; refine And.intro ?_ ?_; (with_reducible rfl); refine And.intro ?_ ?_; (with_reducible rfl); refine And.intro ?_ ?_; rfl; refine And.intro ?_ ?_; rfl; refine And.intro ?_ ?_; (with_reducible rfl); exact True.intro; refine And.intro ?_ ?_; rfl; refine And.intro ?_ ?_; refine And.intro ?_ ?_; assumption; refine And.intro ?_ ?_; assumption; refine And.intro ?_ ?_; exact blw_bits (by omega); refine And.intro ?_ ?_; exact blw_bits (by omega); refine And.intro ?_ ?_; assumption; assumption; rintro ⟨⟩ -; refine And.intro ?_ ?_; rfl; refine Lw.outP_eq rfl ?_; refine Exists.intro () ?_; refine And.intro ?_ ?_; refine And.intro ?_ ?_; (with_reducible rfl); exact True.intro; exact True.intro; intro c17; simp only [Bool.true_eq_false] at c17; intro c15; simp only [Bool.not_true, Bool.false_eq_true] at c15; (show _; rotate_left)))
        rw [hs]
        rfl
end

theorem all_mk {l : PySem.W.OpenLaw} {w : World} {K : PySem.W.Frag} {h : Heap} {mg : Str → Option Value} {fa : Addr} (X : K.In h) (G : h.Ns mainGlobals mg) (hfa : mg "law" = some (.ref fa))
    {A_BadBeats A_BadNet A_Beats A_LightsError A_NotCrowd f1 f2 f3 f4 f5 f6 f7 f8 f9 f10 f11 f12 f13 f14 f15 f16 f17 f18 f19 f20 f21 f22 f23 f24 f25 f26 f27 f28 : Addr}
    {od1 an1 : Option Addr} {sl1 : Array (Option Value)} {oc1 kV1 dc1 pm1 cd1 ct1 : Value}
    {od2 an2 : Option Addr} {sl2 : Array (Option Value)} {oc2 kV2 dc2 pm2 cd2 ct2 : Value}
    {od3 an3 : Option Addr} {sl3 : Array (Option Value)} {oc3 kV3 dc3 pm3 cd3 ct3 : Value}
    {od4 an4 : Option Addr} {sl4 : Array (Option Value)} {oc4 kV4 dc4 pm4 cd4 ct4 : Value}
    {od5 an5 : Option Addr} {sl5 : Array (Option Value)} {oc5 kV5 dc5 pm5 cd5 ct5 : Value}
    {od6 an6 : Option Addr} {sl6 : Array (Option Value)} {oc6 kV6 dc6 pm6 cd6 ct6 : Value}
    {od7 an7 : Option Addr} {sl7 : Array (Option Value)} {oc7 kV7 dc7 pm7 cd7 ct7 : Value}
    {od8 an8 : Option Addr} {sl8 : Array (Option Value)} {oc8 kV8 dc8 pm8 cd8 ct8 : Value}
    {od9 an9 : Option Addr} {sl9 : Array (Option Value)} {oc9 kV9 dc9 pm9 cd9 ct9 : Value}
    {od10 an10 : Option Addr} {sl10 : Array (Option Value)} {oc10 kV10 dc10 pm10 cd10 ct10 : Value}
    {od11 an11 : Option Addr} {sl11 : Array (Option Value)} {oc11 kV11 dc11 pm11 cd11 ct11 : Value}
    {od12 an12 : Option Addr} {sl12 : Array (Option Value)} {oc12 kV12 dc12 pm12 cd12 ct12 : Value}
    {od13 an13 : Option Addr} {sl13 : Array (Option Value)} {oc13 kV13 dc13 pm13 cd13 ct13 : Value}
    {od14 an14 : Option Addr} {sl14 : Array (Option Value)} {oc14 kV14 dc14 pm14 cd14 ct14 : Value}
    {od15 an15 : Option Addr} {sl15 : Array (Option Value)} {oc15 kV15 dc15 pm15 cd15 ct15 : Value}
    {od16 an16 : Option Addr} {sl16 : Array (Option Value)} {oc16 kV16 dc16 pm16 cd16 ct16 : Value}
    {od17 an17 : Option Addr} {sl17 : Array (Option Value)} {oc17 kV17 dc17 pm17 cd17 ct17 : Value}
    {od18 an18 : Option Addr} {sl18 : Array (Option Value)} {oc18 kV18 dc18 pm18 cd18 ct18 : Value}
    {od19 an19 : Option Addr} {sl19 : Array (Option Value)} {oc19 kV19 dc19 pm19 cd19 ct19 : Value}
    {od20 an20 : Option Addr} {sl20 : Array (Option Value)} {oc20 kV20 dc20 pm20 cd20 ct20 : Value}
    {od21 an21 : Option Addr} {sl21 : Array (Option Value)} {oc21 kV21 dc21 pm21 cd21 ct21 : Value}
    {od22 an22 : Option Addr} {sl22 : Array (Option Value)} {oc22 kV22 dc22 pm22 cd22 ct22 : Value}
    {od23 an23 : Option Addr} {sl23 : Array (Option Value)} {oc23 kV23 dc23 pm23 cd23 ct23 : Value}
    {od24 an24 : Option Addr} {sl24 : Array (Option Value)} {oc24 kV24 dc24 pm24 cd24 ct24 : Value}
    {od25 an25 : Option Addr} {sl25 : Array (Option Value)} {oc25 kV25 dc25 pm25 cd25 ct25 : Value}
    {od26 an26 : Option Addr} {sl26 : Array (Option Value)} {oc26 kV26 dc26 pm26 cd26 ct26 : Value}
    {od27 an27 : Option Addr} {sl27 : Array (Option Value)} {oc27 kV27 dc27 pm27 cd27 ct27 : Value}
    {od28 an28 : Option Addr} {sl28 : Array (Option Value)} {oc28 kV28 dc28 pm28 cd28 ct28 : Value}
    {t_MOST_BEATS : Tok}
    (q0 : PySem.W.nsIn K mainGlobals "law" = some (some (.ref f1)))
    (q1 : K.lookup f1 = some ⟨oc1, od1, .func (PySem.W.fnOf "law" "law" (defArgs s_law) (defBody s_law) (defScope s_law) .none kV1 dc1 pm1 an1 cd1 ct1), sl1⟩)
    (q2 : PySem.W.codeIn K cd1 "law" = true)
    (q3 : PySem.W.keepIn K (.ref f1) = true)
    (q4 : PySem.W.nsIn K mainGlobals "_law_hand" = some (some (.ref f2)))
    (q5 : K.lookup f2 = some ⟨oc2, od2, .func (PySem.W.fnOf "_law_hand" "_law_hand" (defArgs s_law_hand) (defBody s_law_hand) (defScope s_law_hand) .none kV2 dc2 pm2 an2 cd2 ct2), sl2⟩)
    (q6 : PySem.W.codeIn K cd2 "_law_hand" = true)
    (q7 : PySem.W.keepIn K (.ref f2) = true)
    (q8 : PySem.W.nsIn K mainGlobals "_law_cell" = some (some (.ref f3)))
    (q9 : K.lookup f3 = some ⟨oc3, od3, .func (PySem.W.fnOf "_law_cell" "_law_cell" (defArgs s_law_cell) (defBody s_law_cell) (defScope s_law_cell) .none kV3 dc3 pm3 an3 cd3 ct3), sl3⟩)
    (q10 : PySem.W.codeIn K cd3 "_law_cell" = true)
    (q11 : PySem.W.keepIn K (.ref f3) = true)
    (q12 : PySem.W.nsIn K mainGlobals "_law_take" = some (some (.ref f4)))
    (q13 : K.lookup f4 = some ⟨oc4, od4, .func (PySem.W.fnOf "_law_take" "_law_take" (defArgs s_law_take) (defBody s_law_take) (defScope s_law_take) .none kV4 dc4 pm4 an4 cd4 ct4), sl4⟩)
    (q14 : PySem.W.codeIn K cd4 "_law_take" = true)
    (q15 : PySem.W.keepIn K (.ref f4) = true)
    (q16 : PySem.W.nsIn K mainGlobals "_law_members" = some (some (.ref f5)))
    (q17 : K.lookup f5 = some ⟨oc5, od5, .func (PySem.W.fnOf "_law_members" "_law_members" (defArgs s_law_members) (defBody s_law_members) (defScope s_law_members) .none kV5 dc5 pm5 an5 cd5 ct5), sl5⟩)
    (q18 : PySem.W.codeIn K cd5 "_law_members" = true)
    (q19 : PySem.W.keepIn K (.ref f5) = true)
    (q20 : PySem.W.nsIn K mainGlobals "Beats" = some (some (.ref A_Beats)))
    (q21 : PySem.W.findIn K (.ref A_Beats) "__init__" = some (some (.ref f6)))
    (q22 : PySem.W.isFn K (.ref f6) = true)
    (q23 : K.lookup f6 = some ⟨oc6, od6, .func (PySem.W.fnOf "__init__" "Beats.__init__" (defArgs s_Beats_init) (defBody s_Beats_init) (defScope s_Beats_init) .none kV6 dc6 pm6 an6 cd6 ct6), sl6⟩)
    (q24 : PySem.W.codeIn K cd6 "Beats.__init__" = true)
    (q25 : PySem.W.keepIn K (.ref f6) = true)
    (q26 : PySem.W.nsIn K mainGlobals "check_length" = some (some (.ref f7)))
    (q27 : K.lookup f7 = some ⟨oc7, od7, .func (PySem.W.fnOf "check_length" "check_length" (defArgs s_check_length) (defBody s_check_length) (defScope s_check_length) .none kV7 dc7 pm7 an7 cd7 ct7), sl7⟩)
    (q28 : PySem.W.codeIn K cd7 "check_length" = true)
    (q29 : PySem.W.keepIn K (.ref f7) = true)
    (q30 : PySem.W.nsIn K mainGlobals "is_length" = some (some (.ref f8)))
    (q31 : K.lookup f8 = some ⟨oc8, od8, .func (PySem.W.fnOf "is_length" "is_length" (defArgs s_is_length) (defBody s_is_length) (defScope s_is_length) .none kV8 dc8 pm8 an8 cd8 ct8), sl8⟩)
    (q32 : PySem.W.codeIn K cd8 "is_length" = true)
    (q33 : PySem.W.keepIn K (.ref f8) = true)
    (q34 : PySem.W.nsIn K mainGlobals "MOST_BEATS" = some (some (.int 60 t_MOST_BEATS)))
    (q35 : PySem.W.nsIn K mainGlobals "BadBeats" = some (some (.ref A_BadBeats)))
    (q36 : PySem.W.excIn K A_BadBeats [.type "ValueError", .type "Exception", .type "BaseException", .type "object"] "ValueError.__new__" = true)
    (q37 : PySem.W.keepIn K (.ref A_BadBeats) = true)
    (q38 : PySem.W.subIn K (.ref A_BadBeats) (.type "BaseException") = some true)
    (q39 : PySem.W.typeIn K (.ref A_BadBeats) = some (.type "type"))
    (q40 : PySem.W.plainGet K A_Beats Str.empty = true)
    (q41 : PySem.W.hasDictIn K A_Beats = true)
    (q42 : PySem.W.plainOver K A_Beats = true)
    (q43 : PySem.W.findIn K (.ref A_Beats) "__setattr__" = some (some (.builtin "object.__setattr__")))
    (q44 : PySem.W.findIn K (.ref A_Beats) "length" = some none)
    (q45 : PySem.W.findIn K (.ref A_Beats) "_bits" = some none)
    (q46 : PySem.W.findIn K (.ref A_Beats) "_beats" = some none)
    (q47 : PySem.W.makesIn K A_Beats = true)
    (q48 : PySem.W.keepIn K (.ref A_Beats) = true)
    (q49 : PySem.W.nsIn K mainGlobals "_law_right" = some (some (.ref f9)))
    (q50 : K.lookup f9 = some ⟨oc9, od9, .func (PySem.W.fnOf "_law_right" "_law_right" (defArgs s_law_right) (defBody s_law_right) (defScope s_law_right) .none kV9 dc9 pm9 an9 cd9 ct9), sl9⟩)
    (q51 : PySem.W.codeIn K cd9 "_law_right" = true)
    (q52 : PySem.W.keepIn K (.ref f9) = true)
    (q53 : PySem.W.nsIn K mainGlobals "_law_same" = some (some (.ref f10)))
    (q54 : K.lookup f10 = some ⟨oc10, od10, .func (PySem.W.fnOf "_law_same" "_law_same" (defArgs s_law_same) (defBody s_law_same) (defScope s_law_same) .none kV10 dc10 pm10 an10 cd10 ct10), sl10⟩)
    (q55 : PySem.W.codeIn K cd10 "_law_same" = true)
    (q56 : PySem.W.keepIn K (.ref f10) = true)
    (q57 : PySem.W.nsIn K mainGlobals "_law_is_int" = some (some (.ref f11)))
    (q58 : K.lookup f11 = some ⟨oc11, od11, .func (PySem.W.fnOf "_law_is_int" "_law_is_int" (defArgs s_law_is_int) (defBody s_law_is_int) (defScope s_law_is_int) .none kV11 dc11 pm11 an11 cd11 ct11), sl11⟩)
    (q59 : PySem.W.codeIn K cd11 "_law_is_int" = true)
    (q60 : PySem.W.keepIn K (.ref f11) = true)
    (q61 : PySem.W.nsIn K mainGlobals "_law_is_set" = some (some (.ref f12)))
    (q62 : K.lookup f12 = some ⟨oc12, od12, .func (PySem.W.fnOf "_law_is_set" "_law_is_set" (defArgs s_law_is_set) (defBody s_law_is_set) (defScope s_law_is_set) .none kV12 dc12 pm12 an12 cd12 ct12), sl12⟩)
    (q63 : PySem.W.codeIn K cd12 "_law_is_set" = true)
    (q64 : PySem.W.keepIn K (.ref f12) = true)
    (q65 : PySem.W.findIn K (.ref A_Beats) "__iter__" = some (some (.ref f13)))
    (q66 : PySem.W.isFn K (.ref f13) = true)
    (q67 : K.lookup f13 = some ⟨oc13, od13, .func (PySem.W.fnOf "__iter__" "Beats.__iter__" (defArgs s_Beats_iter) (defBody s_Beats_iter) (defScope s_Beats_iter) .none kV13 dc13 pm13 an13 cd13 ct13), sl13⟩)
    (q68 : PySem.W.codeIn K cd13 "Beats.__iter__" = true)
    (q69 : PySem.W.keepIn K (.ref f13) = true)
    (q70 : PySem.W.findIn K (.ref A_Beats) "__len__" = some (some (.ref f14)))
    (q71 : PySem.W.isFn K (.ref f14) = true)
    (q72 : K.lookup f14 = some ⟨oc14, od14, .func (PySem.W.fnOf "__len__" "Beats.__len__" (defArgs s_Beats_len) (defBody s_Beats_len) (defScope s_Beats_len) .none kV14 dc14 pm14 an14 cd14 ct14), sl14⟩)
    (q73 : PySem.W.codeIn K cd14 "Beats.__len__" = true)
    (q74 : PySem.W.keepIn K (.ref f14) = true)
    (q75 : PySem.W.findIn K (.ref A_Beats) "__class__" = some (some (.builtin "object.__class__")))
    (q76 : PySem.W.specialIn K (.builtin "object.__class__") "__get__" = some (some (.builtin "getset_descriptor.__get__")))
    (q77 : PySem.W.takesIn K (.builtin "object.__class__") = some true)
    (q78 : PySem.W.mroIn K A_Beats (.type "object") = some true)
    (q79 : PySem.W.findIn K (.ref A_Beats) "__or__" = some (some (.ref f15)))
    (q80 : PySem.W.isFn K (.ref f15) = true)
    (q81 : K.lookup f15 = some ⟨oc15, od15, .func (PySem.W.fnOf "__or__" "Beats.__or__" (defArgs s_Beats_or) (defBody s_Beats_or) (defScope s_Beats_or) .none kV15 dc15 pm15 an15 cd15 ct15), sl15⟩)
    (q82 : PySem.W.codeIn K cd15 "Beats.__or__" = true)
    (q83 : PySem.W.keepIn K (.ref f15) = true)
    (q84 : PySem.W.nsIn K mainGlobals "check_same" = some (some (.ref f16)))
    (q85 : K.lookup f16 = some ⟨oc16, od16, .func (PySem.W.fnOf "check_same" "check_same" (defArgs s_check_same) (defBody s_check_same) (defScope s_check_same) .none kV16 dc16 pm16 an16 cd16 ct16), sl16⟩)
    (q86 : PySem.W.codeIn K cd16 "check_same" = true)
    (q87 : PySem.W.keepIn K (.ref f16) = true)
    (q88 : PySem.W.nsIn K mainGlobals "from_bits" = some (some (.ref f17)))
    (q89 : K.lookup f17 = some ⟨oc17, od17, .func (PySem.W.fnOf "from_bits" "from_bits" (defArgs s_from_bits) (defBody s_from_bits) (defScope s_from_bits) .none kV17 dc17 pm17 an17 cd17 ct17), sl17⟩)
    (q90 : PySem.W.codeIn K cd17 "from_bits" = true)
    (q91 : PySem.W.keepIn K (.ref f17) = true)
    (q92 : PySem.W.findIn K (.ref A_Beats) "__and__" = some (some (.ref f18)))
    (q93 : PySem.W.isFn K (.ref f18) = true)
    (q94 : K.lookup f18 = some ⟨oc18, od18, .func (PySem.W.fnOf "__and__" "Beats.__and__" (defArgs s_Beats_and) (defBody s_Beats_and) (defScope s_Beats_and) .none kV18 dc18 pm18 an18 cd18 ct18), sl18⟩)
    (q95 : PySem.W.codeIn K cd18 "Beats.__and__" = true)
    (q96 : PySem.W.keepIn K (.ref f18) = true)
    (q97 : PySem.W.findIn K (.ref A_Beats) "__xor__" = some (some (.ref f19)))
    (q98 : PySem.W.isFn K (.ref f19) = true)
    (q99 : K.lookup f19 = some ⟨oc19, od19, .func (PySem.W.fnOf "__xor__" "Beats.__xor__" (defArgs s_Beats_xor) (defBody s_Beats_xor) (defScope s_Beats_xor) .none kV19 dc19 pm19 an19 cd19 ct19), sl19⟩)
    (q100 : PySem.W.codeIn K cd19 "Beats.__xor__" = true)
    (q101 : PySem.W.keepIn K (.ref f19) = true)
    (q102 : PySem.W.findIn K (.ref A_Beats) "__invert__" = some (some (.ref f20)))
    (q103 : PySem.W.isFn K (.ref f20) = true)
    (q104 : K.lookup f20 = some ⟨oc20, od20, .func (PySem.W.fnOf "__invert__" "Beats.__invert__" (defArgs s_Beats_invert) (defBody s_Beats_invert) (defScope s_Beats_invert) .none kV20 dc20 pm20 an20 cd20 ct20), sl20⟩)
    (q105 : PySem.W.codeIn K cd20 "Beats.__invert__" = true)
    (q106 : PySem.W.keepIn K (.ref f20) = true)
    (q107 : PySem.W.findIn K (.ref A_Beats) "__contains__" = some (some (.ref f21)))
    (q108 : PySem.W.isFn K (.ref f21) = true)
    (q109 : K.lookup f21 = some ⟨oc21, od21, .func (PySem.W.fnOf "__contains__" "Beats.__contains__" (defArgs s_Beats_contains) (defBody s_Beats_contains) (defScope s_Beats_contains) .none kV21 dc21 pm21 an21 cd21 ct21), sl21⟩)
    (q110 : PySem.W.codeIn K cd21 "Beats.__contains__" = true)
    (q111 : PySem.W.keepIn K (.ref f21) = true)
    (q112 : PySem.W.findIn K (.ref A_Beats) "within" = some (some (.ref f22)))
    (q113 : PySem.W.isFn K (.ref f22) = true)
    (q114 : K.lookup f22 = some ⟨oc22, od22, .func (PySem.W.fnOf "within" "Beats.within" (defArgs s_Beats_within) (defBody s_Beats_within) (defScope s_Beats_within) .none kV22 dc22 pm22 an22 cd22 ct22), sl22⟩)
    (q115 : PySem.W.codeIn K cd22 "Beats.within" = true)
    (q116 : PySem.W.keepIn K (.ref f22) = true)
    (q117 : PySem.W.selfFirst K A_Beats = true)
    (q118 : PySem.W.nsIn K mainGlobals "_law_all_refused" = some (some (.ref f23)))
    (q119 : K.lookup f23 = some ⟨oc23, od23, .func (PySem.W.fnOf "_law_all_refused" "_law_all_refused" (defArgs s_law_all_refused) (defBody s_law_all_refused) (defScope s_law_all_refused) .none kV23 dc23 pm23 an23 cd23 ct23), sl23⟩)
    (q120 : PySem.W.codeIn K cd23 "_law_all_refused" = true)
    (q121 : PySem.W.keepIn K (.ref f23) = true)
    (q122 : PySem.W.nsIn K mainGlobals "_law_refused" = some (some (.ref f24)))
    (q123 : K.lookup f24 = some ⟨oc24, od24, .func (PySem.W.fnOf "_law_refused" "_law_refused" (defArgs s_law_refused) (defBody s_law_refused) (defScope s_law_refused) .none kV24 dc24 pm24 an24 cd24 ct24), sl24⟩)
    (q124 : PySem.W.codeIn K cd24 "_law_refused" = true)
    (q125 : PySem.W.keepIn K (.ref f24) = true)
    (q126 : PySem.W.nsIn K mainGlobals "_law_joined" = some (some (.ref f25)))
    (q127 : K.lookup f25 = some ⟨oc25, od25, .func (PySem.W.fnOf "_law_joined" "_law_joined" (defArgs s_law_joined) (defBody s_law_joined) (defScope s_law_joined) .none kV25 dc25 pm25 an25 cd25 ct25), sl25⟩)
    (q128 : PySem.W.codeIn K cd25 "_law_joined" = true)
    (q129 : PySem.W.keepIn K (.ref f25) = true)
    (q130 : PySem.W.findIn K (.ref A_Beats) "__add__" = some (some (.ref f26)))
    (q131 : PySem.W.isFn K (.ref f26) = true)
    (q132 : K.lookup f26 = some ⟨oc26, od26, .func (PySem.W.fnOf "__add__" "Beats.__add__" (defArgs s_Beats_add) (defBody s_Beats_add) (defScope s_Beats_add) .none kV26 dc26 pm26 an26 cd26 ct26), sl26⟩)
    (q133 : PySem.W.codeIn K cd26 "Beats.__add__" = true)
    (q134 : PySem.W.keepIn K (.ref f26) = true)
    (q135 : PySem.W.findIn K (.ref A_Beats) "__sub__" = some (some (.ref f27)))
    (q136 : PySem.W.isFn K (.ref f27) = true)
    (q137 : K.lookup f27 = some ⟨oc27, od27, .func (PySem.W.fnOf "__sub__" "Beats.__sub__" (defArgs s_Beats_sub) (defBody s_Beats_sub) (defScope s_Beats_sub) .none kV27 dc27 pm27 an27 cd27 ct27), sl27⟩)
    (q138 : PySem.W.codeIn K cd27 "Beats.__sub__" = true)
    (q139 : PySem.W.keepIn K (.ref f27) = true)
    (q140 : PySem.W.findIn K (.ref A_Beats) "__neg__" = some (some (.ref f28)))
    (q141 : PySem.W.isFn K (.ref f28) = true)
    (q142 : K.lookup f28 = some ⟨oc28, od28, .func (PySem.W.fnOf "__neg__" "Beats.__neg__" (defArgs s_Beats_neg) (defBody s_Beats_neg) (defScope s_Beats_neg) .none kV28 dc28 pm28 an28 cd28 ct28), sl28⟩)
    (q143 : PySem.W.codeIn K cd28 "Beats.__neg__" = true)
    (q144 : PySem.W.keepIn K (.ref f28) = true)
    (q145 : PySem.W.findIn K (.ref A_BadBeats) "__getattribute__" = some (some (.builtin "BaseException.__getattribute__")))
    (q146 : PySem.W.findIn K (.ref A_BadBeats) "__getattr__" = some none)
    (q147 : PySem.W.hasDictIn K A_BadBeats = true)
    (q148 : PySem.W.findIn K (.ref A_BadBeats) "__class__" = some (some (.builtin "object.__class__")))
    (q149 : PySem.W.mroIn K A_BadBeats (.type "object") = some true)
    (q150 : PySem.W.nsIn K mainGlobals "LightsError" = some (some (.ref A_LightsError)))
    (q151 : PySem.W.nsIn K mainGlobals "BadNet" = some (some (.ref A_BadNet)))
    (q152 : PySem.W.nsIn K mainGlobals "NotCrowd" = some (some (.ref A_NotCrowd)))
    (q153 : PySem.W.isClsIn K A_BadBeats = true)
    (q154 : PySem.W.subIn K (.ref A_BadBeats) (.ref A_BadBeats) = some true)
    (q155 : PySem.W.subIn K (.ref A_LightsError) (.type "BaseException") = some true)
    (q156 : PySem.W.isClsIn K A_LightsError = true)
    (q157 : PySem.W.typeIn K (.ref A_LightsError) = some (.type "type"))
    (q158 : PySem.W.subIn K (.ref A_BadBeats) (.ref A_LightsError) = some true)
    (q159 : PySem.W.subIn K (.ref A_LightsError) (.ref A_LightsError) = some true)
    (q160 : PySem.W.subIn K (.ref A_BadBeats) (.type "ValueError") = some true)
    (q161 : PySem.W.isClsIn K A_BadNet = true)
    (q162 : PySem.W.typeIn K (.ref A_BadNet) = some (.type "type"))
    (q163 : PySem.W.subIn K (.ref A_BadBeats) (.ref A_BadNet) = some false)
    (q164 : PySem.W.subIn K (.ref A_BadNet) (.ref A_BadNet) = some true)
    (q165 : PySem.W.isClsIn K A_NotCrowd = true)
    (q166 : PySem.W.typeIn K (.ref A_NotCrowd) = some (.type "type"))
    (q167 : PySem.W.subIn K (.ref A_BadBeats) (.ref A_NotCrowd) = some false)
    (q168 : PySem.W.subIn K (.ref A_NotCrowd) (.ref A_NotCrowd) = some true)
    (q169 : PySem.W.nsIn K mainGlobals "len" = some none)
    (q170 : PySem.W.nsIn K mainGlobals "abs" = some none)
    (q171 : PySem.W.nsIn K mainGlobals "int" = some none)
    (q172 : PySem.W.nsIn K mainGlobals "list" = some none)
    (q173 : PySem.W.nsIn K mainGlobals "tuple" = some none)
    (q174 : PySem.W.nsIn K mainGlobals "sorted" = some none)
    (q175 : PySem.W.nsIn K mainGlobals "range" = some none)
    (q176 : PySem.W.nsIn K mainGlobals "isinstance" = some none)
    (q177 : PySem.W.nsIn K mainGlobals "bool" = some none)
    (q178 : PySem.W.nsIn K mainGlobals "str" = some none)
    (q179 : PySem.W.nsIn K mainGlobals "iter" = some none)
    (q180 : PySem.W.nsIn K mainGlobals "max" = some none)
    (q181 : PySem.W.nsIn K mainGlobals "min" = some none)
    (q182 : PySem.W.nsIn K mainGlobals "ValueError" = some none)
    (q183 : PySem.W.nsIn K mainGlobals "enumerate" = some none)
    (q184 : PySem.W.nsIn K mainGlobals "zip" = some none)
    (q185 : PySem.W.nsIn K mainGlobals "sum" = some none)
    (q186 : PySem.W.nsIn K mainGlobals "any" = some none)
    (q187 : PySem.W.nsIn K mainGlobals "all" = some none)
    (q188 : PySem.W.nsIn K mainGlobals "dict" = some none)
    (q189 : PySem.W.nsIn K mainGlobals "set" = some none)
    (q190 : PySem.W.nsIn K mainGlobals "reversed" = some none)
    (q191 : PySem.W.nsIn K mainGlobals "repr" = some none)
    : ∃ fd : FuncData, (∀ (s : Shared) (v : Value), BindsTo s fd ⟨[v], []⟩ [("script", v)]) ∧ ∀ base : Heap, K.In base → base.Ns mainGlobals mg → FnOk l.prog w K mg base (L2.CX l.prog w) 11 fa fd ["script"] (spC K cLaw) := by
  have e := hfa.symm.trans (PySem.W.mg_of X G q0)
  cases e
  have hb : Blt mg blts := by
    intro x hx
    simp only [List.mem_cons, List.not_mem_nil, or_false] at hx
    rcases hx with rfl | rfl | rfl | rfl | rfl | rfl | rfl | rfl | rfl | rfl | rfl | rfl | rfl | rfl | rfl | rfl | rfl | rfl | rfl | rfl | rfl | rfl | rfl
    · exact PySem.W.mg_none_of X G q169
    · exact PySem.W.mg_none_of X G q170
    · exact PySem.W.mg_none_of X G q171
    · exact PySem.W.mg_none_of X G q172
    · exact PySem.W.mg_none_of X G q173
    · exact PySem.W.mg_none_of X G q174
    · exact PySem.W.mg_none_of X G q175
    · exact PySem.W.mg_none_of X G q176
    · exact PySem.W.mg_none_of X G q177
    · exact PySem.W.mg_none_of X G q178
    · exact PySem.W.mg_none_of X G q179
    · exact PySem.W.mg_none_of X G q180
    · exact PySem.W.mg_none_of X G q181
    · exact PySem.W.mg_none_of X G q182
    · exact PySem.W.mg_none_of X G q183
    · exact PySem.W.mg_none_of X G q184
    · exact PySem.W.mg_none_of X G q185
    · exact PySem.W.mg_none_of X G q186
    · exact PySem.W.mg_none_of X G q187
    · exact PySem.W.mg_none_of X G q188
    · exact PySem.W.mg_none_of X G q189
    · exact PySem.W.mg_none_of X G q190
    · exact PySem.W.mg_none_of X G q191
  refine ⟨PySem.W.fnOf "law" "law" (defArgs s_law) (defBody s_law) (defScope s_law) .none kV1 dc1 pm1 an1 cd1 ct1, fun s v => .of_eq rfl, fun base _ _ => ?_⟩
  have F1 := fun_mk (st := s_law) q1 q2 q3
  have F2 := fun_mk (st := s_law_hand) q5 q6 q7
  have F3 := fun_mk (st := s_law_cell) q9 q10 q11
  have G_ok_cell : FnOk l.prog w K mg base (L2.CX l.prog w) 1 f3 _ ["script", "k"] (spC K cCell) := ok_cell hb F3
  have b3 := F3.binds (ps := ["script", "k"]) fun _ _ _ _ _ _ us hl => match us, hl with | [_, _], _ => rfl
  have G_ok_hand : FnOk l.prog w K mg base (L2.CX l.prog w) 2 f2 _ ["script", "k"] (spC K cHand) := ok_hand hb F2 ⟨f3, _, _, G_ok_cell, PySem.W.mg_of X G q8, q11, b3⟩
  have b2 := F2.binds (ps := ["script", "k"]) fun _ _ _ _ _ _ us hl => match us, hl with | [_, _], _ => rfl
  have F4 := fun_mk (st := s_law_take) q13 q14 q15
  have G_ok_take : FnOk l.prog w K mg base (L2.CX l.prog w) 1 f4 _ ["hand", "many"] (spC K cTake) := ok_take hb F4
  have b4 := F4.binds (ps := ["hand", "many"]) fun _ _ _ _ _ _ us hl => match us, hl with | [_, _], _ => rfl
  have F5 := fun_mk (st := s_law_members) q17 q18 q19
  have G_ok_members : FnOk l.prog w K mg base (L2.CX l.prog w) 2 f5 _ ["hand", "length"] (spC K cMembers) := ok_members hb F5 ⟨f4, _, _, G_ok_take, PySem.W.mg_of X G q12, q15, b4⟩
  have b5 := F5.binds (ps := ["hand", "length"]) fun _ _ _ _ _ _ us hl => match us, hl with | [_, _], _ => rfl
  have F6 := fun_mk (st := s_Beats_init) q23 q24 q25
  have F7 := fun_mk (st := s_check_length) q27 q28 q29
  have F8 := fun_mk (st := s_is_length) q31 q32 q33
  have G_ok_is_length : FnOk l.prog w K mg base (L2.CX l.prog w) 1 f8 _ ["length"] (spC K cIsLen) := ok_is_length hb F8 (PySem.W.mg_of X G q34)
  have b8 := F8.binds (ps := ["length"]) fun _ _ _ _ _ _ us hl => match us, hl with | [_], _ => rfl
  have s10 : Exc0 K mg "BadBeats" A_BadBeats := ⟨(PySem.W.mg_of X G q35), q36, q37, q38, q39⟩
  have G_ok_check_length : FnOk l.prog w K mg base (L2.CX l.prog w) 2 f7 _ ["length"] (spC K cCheckOk) := ok_check_length hb F7 ⟨f8, _, _, G_ok_is_length, PySem.W.mg_of X G q30, q33, b8⟩ s10
  have b7 := F7.binds (ps := ["length"]) fun _ _ _ _ _ _ us hl => match us, hl with | [_], _ => rfl
  have s13 : Cls K A_Beats := ⟨q40, q41, q42, q43⟩
  have G_ok_init : FnOk l.prog w K mg base (L2.CX l.prog w) 3 f6 _ ["self", "length", "members"] (spC K (cInit A_Beats)) := ok_init hb F6 ⟨f7, _, _, G_ok_check_length, PySem.W.mg_of X G q26, q29, b7⟩ s13 q44 q45 q46
  have b6 := F6.binds (ps := ["self", "length", "members"]) fun _ _ _ _ _ _ us hl => match us, hl with | [_, _, _], _ => rfl
  have F9 := fun_mk (st := s_law_right) q50 q51 q52
  have F10 := fun_mk (st := s_law_same) q54 q55 q56
  have F11 := fun_mk (st := s_law_is_int) q58 q59 q60
  have G_ok_is_int : FnOk l.prog w K mg base (L2.CX l.prog w) 1 f11 _ ["got"] (spC K cIsInt) := ok_is_int hb F11
  have b11 := F11.binds (ps := ["got"]) fun _ _ _ _ _ _ us hl => match us, hl with | [_], _ => rfl
  have G_ok_same0 : FnOk l.prog w K mg base (L2.CX l.prog w) 2 f10 _ ["got", "due"] (spC K (cSame 0)) := ok_same0 hb F10 ⟨f11, _, _, G_ok_is_int, PySem.W.mg_of X G q57, q60, b11⟩
  have b10 := F10.binds (ps := ["got", "due"]) fun _ _ _ _ _ _ us hl => match us, hl with | [_, _], _ => rfl
  have F12 := fun_mk (st := s_law_is_set) q62 q63 q64
  have G_ok_same01 : FnOk l.prog w K mg base (L2.CX l.prog w) 3 f10 _ ["got", "due"] (spC K (cSame 1)) := ok_same01 hb F10 ⟨f11, _, _, G_ok_is_int, PySem.W.mg_of X G q57, q60, b11⟩ ⟨f10, _, _, G_ok_same0, PySem.W.mg_of X G q53, q56, b10⟩
  have F13 := fun_mk (st := s_Beats_iter) q67 q68 q69
  have b13 := F13.binds (ps := ["self"]) fun _ _ _ _ _ _ us hl => match us, hl with | [_], _ => rfl
  have F14 := fun_mk (st := s_Beats_len) q72 q73 q74
  have b14 := F14.binds (ps := ["self"]) fun _ _ _ _ _ _ us hl => match us, hl with | [_], _ => rfl
  have s23 : ClsI K A_Beats := ⟨s13, q75, q76, q77, q78⟩
  have G_ok_is_set : FnOk l.prog w K mg base (L2.CX l.prog w) 5 f12 _ ["got", "length", "due"] (spC K (cIsSet A_Beats)) := ok_is_set hb F12 ⟨f10, _, _, G_ok_same01, PySem.W.mg_of X G q53, q56, b10⟩ ⟨f13, _, _, fun base => ok_iter (base := base) hb F13 s13 q46, q65, q66, b13⟩ ⟨f14, _, _, fun base => ok_lenP (base := base) hb F14 s13 q46, q70, q71, b14⟩ s13 s23 q44 (PySem.W.mg_of X G q20)
  have b12 := F12.binds (ps := ["got", "length", "due"]) fun _ _ _ _ _ _ us hl => match us, hl with | [_, _, _], _ => rfl
  have F15 := fun_mk (st := s_Beats_or) q81 q82 q83
  have F16 := fun_mk (st := s_check_same) q85 q86 q87
  have G_ok_check_same : FnOk l.prog w K mg base (L2.CX l.prog w) 1 f16 _ ["one", "other"] (spC K (cSameOk A_Beats)) := ok_check_same hb F16 s13 q44 s10
  have b16 := F16.binds (ps := ["one", "other"]) fun _ _ _ _ _ _ us hl => match us, hl with | [_, _], _ => rfl
  have F17 := fun_mk (st := s_from_bits) q89 q90 q91
  have G_ok_from_bits : FnOk l.prog w K mg base (L2.CX l.prog w) 5 f17 _ ["length", "bits"] (spC K (cFrom A_Beats)) := ok_from_bits hb F17 ⟨f6, _, _, G_ok_init, (PySem.W.mg_of X G q20), ⟨q47, q21, q22, q48⟩, b6⟩
  have b17 := F17.binds (ps := ["length", "bits"]) fun _ _ _ _ _ _ us hl => match us, hl with | [_, _], _ => rfl
  have G_ok_or : FnOk l.prog w K mg base (L2.CX l.prog w) 6 f15 _ ["self", "other"] (spC K (cOr A_Beats)) := ok_or hb F15 ⟨f16, _, _, G_ok_check_same, PySem.W.mg_of X G q84, q87, b16⟩ ⟨f17, _, _, G_ok_from_bits, PySem.W.mg_of X G q88, q91, b17⟩ s13 q44 q45
  have b15 := F15.binds (ps := ["self", "other"]) fun _ _ _ _ _ _ us hl => match us, hl with | [_, _], _ => rfl
  have F18 := fun_mk (st := s_Beats_and) q94 q95 q96
  have G_ok_and : FnOk l.prog w K mg base (L2.CX l.prog w) 6 f18 _ ["self", "other"] (spC K (cAnd A_Beats)) := ok_and hb F18 ⟨f16, _, _, G_ok_check_same, PySem.W.mg_of X G q84, q87, b16⟩ ⟨f17, _, _, G_ok_from_bits, PySem.W.mg_of X G q88, q91, b17⟩ s13 q44 q45
  have b18 := F18.binds (ps := ["self", "other"]) fun _ _ _ _ _ _ us hl => match us, hl with | [_, _], _ => rfl
  have F19 := fun_mk (st := s_Beats_xor) q99 q100 q101
  have G_ok_xor : FnOk l.prog w K mg base (L2.CX l.prog w) 6 f19 _ ["self", "other"] (spC K (cXor A_Beats)) := ok_xor hb F19 ⟨f16, _, _, G_ok_check_same, PySem.W.mg_of X G q84, q87, b16⟩ ⟨f17, _, _, G_ok_from_bits, PySem.W.mg_of X G q88, q91, b17⟩ s13 q44 q45
  have b19 := F19.binds (ps := ["self", "other"]) fun _ _ _ _ _ _ us hl => match us, hl with | [_, _], _ => rfl
  have F20 := fun_mk (st := s_Beats_invert) q104 q105 q106
  have F21 := fun_mk (st := s_Beats_contains) q109 q110 q111
  have G_ok_contains : FnOk l.prog w K mg base (L2.CX l.prog w) 1 f21 _ ["self", "number"] (spC K (cHas A_Beats)) := ok_contains hb F21 s13 q44 q45
  have b21 := F21.binds (ps := ["self", "number"]) fun _ _ _ _ _ _ us hl => match us, hl with | [_, _], _ => rfl
  have G_ok_invert : FnOk l.prog w K mg base (L2.CX l.prog w) 5 f20 _ ["self"] (spC K (cInv A_Beats)) := ok_invert hb F20 ⟨f6, _, _, G_ok_init, (PySem.W.mg_of X G q20), ⟨q47, q21, q22, q48⟩, b6⟩ ⟨f21, _, _, G_ok_contains, q107, q108, b21⟩ s13 q44
  have b20 := F20.binds (ps := ["self"]) fun _ _ _ _ _ _ us hl => match us, hl with | [_], _ => rfl
  have F22 := fun_mk (st := s_Beats_within) q114 q115 q116
  have G_ok_within : FnOk l.prog w K mg base (L2.CX l.prog w) 2 f22 _ ["self", "other"] (spC K (cWithin A_Beats)) := ok_within hb F22 ⟨f16, _, _, G_ok_check_same, PySem.W.mg_of X G q84, q87, b16⟩ s13 q45
  have b22 := F22.binds (ps := ["self", "other"]) fun _ _ _ _ _ _ us hl => match us, hl with | [_, _], _ => rfl
  have G_ok_right : FnOk l.prog w K mg base (L2.CX l.prog w) 8 f9 _ ["a", "b", "xs", "ys", "length"] (spC K (cRight A_Beats)) := ok_right hb F9 ⟨f10, _, _, G_ok_same0, PySem.W.mg_of X G q53, q56, b10⟩ ⟨f12, _, _, G_ok_is_set, PySem.W.mg_of X G q61, q64, b12⟩ ⟨f15, _, _, G_ok_or, q79, q80, b15⟩ ⟨f18, _, _, G_ok_and, q92, q93, b18⟩ ⟨f19, _, _, G_ok_xor, q97, q98, b19⟩ ⟨f20, _, _, G_ok_invert, q102, q103, b20⟩ ⟨f22, _, _, G_ok_within, s13, ⟨q112, q113, q116⟩, b22⟩ q117
  have b9 := F9.binds (ps := ["a", "b", "xs", "ys", "length"]) fun _ _ _ _ _ _ us hl => match us, hl with | [_, _, _, _, _], _ => rfl
  have F23 := fun_mk (st := s_law_all_refused) q119 q120 q121
  have F24 := fun_mk (st := s_law_refused) q123 q124 q125
  have F25 := fun_mk (st := s_law_joined) q127 q128 q129
  have G_ok_check_sameB : FnOk l.prog w K mg base (L2.CX l.prog w) 1 f16 _ ["one", "other"] (spC K (cSameBad A_Beats A_BadBeats)) := ok_check_sameB hb F16 s13 q44 s10
  have G_ok_orB : FnOk l.prog w K mg base (L2.CX l.prog w) 6 f15 _ ["self", "other"] (spC K (cOpBad A_Beats A_BadBeats)) := ok_orB hb F15 ⟨f16, _, _, G_ok_check_sameB, PySem.W.mg_of X G q84, q87, b16⟩
  have G_ok_andB : FnOk l.prog w K mg base (L2.CX l.prog w) 6 f18 _ ["self", "other"] (spC K (cOpBad A_Beats A_BadBeats)) := ok_andB hb F18 ⟨f16, _, _, G_ok_check_sameB, PySem.W.mg_of X G q84, q87, b16⟩
  have G_ok_xorB : FnOk l.prog w K mg base (L2.CX l.prog w) 6 f19 _ ["self", "other"] (spC K (cOpBad A_Beats A_BadBeats)) := ok_xorB hb F19 ⟨f16, _, _, G_ok_check_sameB, PySem.W.mg_of X G q84, q87, b16⟩
  have F26 := fun_mk (st := s_Beats_add) q132 q133 q134
  have G_ok_addB : FnOk l.prog w K mg base (L2.CX l.prog w) 6 f26 _ ["self", "other"] (spC K (cOpBad A_Beats A_BadBeats)) := ok_addB hb F26 ⟨f16, _, _, G_ok_check_sameB, PySem.W.mg_of X G q84, q87, b16⟩
  have b26 := F26.binds (ps := ["self", "other"]) fun _ _ _ _ _ _ us hl => match us, hl with | [_, _], _ => rfl
  have F27 := fun_mk (st := s_Beats_sub) q137 q138 q139
  have F28 := fun_mk (st := s_Beats_neg) q142 q143 q144
  have G_ok_neg : FnOk l.prog w K mg base (L2.CX l.prog w) 5 f28 _ ["self"] (spC K (cNeg A_Beats)) := ok_neg hb F28 ⟨f6, _, _, G_ok_init, (PySem.W.mg_of X G q20), ⟨q47, q21, q22, q48⟩, b6⟩ s13 q44 q46
  have b28 := F28.binds (ps := ["self"]) fun _ _ _ _ _ _ us hl => match us, hl with | [_], _ => rfl
  have G_ok_subB : FnOk l.prog w K mg base (L2.CX l.prog w) 7 f27 _ ["self", "other"] (spC K (cOpBad A_Beats A_BadBeats)) := ok_subB hb F27 ⟨f26, _, _, G_ok_addB, q130, q131, b26⟩ ⟨f28, _, _, G_ok_neg, q140, q141, b28⟩ q117
  have b27 := F27.binds (ps := ["self", "other"]) fun _ _ _ _ _ _ us hl => match us, hl with | [_, _], _ => rfl
  have G_ok_withinB : FnOk l.prog w K mg base (L2.CX l.prog w) 2 f22 _ ["self", "other"] (spC K (cOpBad A_Beats A_BadBeats)) := ok_withinB hb F22 ⟨f16, _, _, G_ok_check_sameB, PySem.W.mg_of X G q84, q87, b16⟩
  have G_ok_joinedB : FnOk l.prog w K mg base (L2.CX l.prog w) 8 f25 _ ["sign", "one", "other"] (spC K (cJoinedBad A_Beats A_BadBeats)) := ok_joinedB hb F25 ⟨f15, _, _, G_ok_orB, q79, q80, b15⟩ ⟨f18, _, _, G_ok_andB, q92, q93, b18⟩ ⟨f19, _, _, G_ok_xorB, q97, q98, b19⟩ ⟨f26, _, _, G_ok_addB, q130, q131, b26⟩ ⟨f27, _, _, G_ok_subB, q135, q136, b27⟩ ⟨f22, _, _, G_ok_withinB, s13, ⟨q112, q113, q116⟩, b22⟩ q117
  have b25 := F25.binds (ps := ["sign", "one", "other"]) fun _ _ _ _ _ _ us hl => match us, hl with | [_, _, _], _ => rfl
  have s57 : ExcC K A_BadBeats := ⟨q145, q146, q38, q147, q148, q76, q77, q149⟩
  have s58 : ErrK K A_BadBeats A_LightsError A_BadNet A_NotCrowd := ⟨(exm_ref q38 q153 q39 q154), (exm_ref q155 q156 q157 q158), (kit_ref q156 q157 q158 q159), (kit_val q160), (kit_ref q161 q162 q163 q164), (kit_ref q165 q166 q167 q168)⟩
  have G_ok_refused : FnOk l.prog w K mg base (L2.CX l.prog w) 9 f24 _ ["sign", "one", "other"] (spC K (cRefused A_Beats)) := ok_refused hb F24 ⟨f25, _, _, G_ok_joinedB, PySem.W.mg_of X G q126, q129, b25⟩ s57 s58 (PySem.W.mg_of X G q35) (PySem.W.mg_of X G q150) (PySem.W.mg_of X G q151) (PySem.W.mg_of X G q152)
  have b24 := F24.binds (ps := ["sign", "one", "other"]) fun _ _ _ _ _ _ us hl => match us, hl with | [_, _, _], _ => rfl
  have G_ok_all_refused : FnOk l.prog w K mg base (L2.CX l.prog w) 10 f23 _ ["one", "other"] (spC K (cAllRefused A_Beats)) := ok_all_refused hb F23 ⟨f24, _, _, G_ok_refused, PySem.W.mg_of X G q122, q125, b24⟩
  have b23 := F23.binds (ps := ["one", "other"]) fun _ _ _ _ _ _ us hl => match us, hl with | [_, _], _ => rfl
  have G_ok_law : FnOk l.prog w K mg base (L2.CX l.prog w) 11 fa _ ["script"] (spC K cLaw) := ok_law hb F1 ⟨f2, _, _, G_ok_hand, PySem.W.mg_of X G q4, q7, b2⟩ ⟨f4, _, _, G_ok_take, PySem.W.mg_of X G q12, q15, b4⟩ ⟨f5, _, _, G_ok_members, PySem.W.mg_of X G q16, q19, b5⟩ ⟨f6, _, _, G_ok_init, (PySem.W.mg_of X G q20), ⟨q47, q21, q22, q48⟩, b6⟩ ⟨f9, _, _, G_ok_right, PySem.W.mg_of X G q49, q52, b9⟩ ⟨f23, _, _, G_ok_all_refused, PySem.W.mg_of X G q118, q121, b23⟩ ⟨f12, _, _, G_ok_is_set, PySem.W.mg_of X G q61, q64, b12⟩ ⟨f20, _, _, G_ok_invert, q102, q103, b20⟩
  exact G_ok_law
theorem walk {l : PySem.W.OpenLaw} {q : Program} {loose : List Str} {XP : (Str → Option Value) → Heap → Prop} {YP : World → Heap → Prop} {d : DefRec} {K : Params → PySem.W.Frag} (hn : l.most = some 63) (hdf : d.params.defaults = [])
    (hY : ∀ (w : World) (h : Heap), YP w h → (K w.params).In h)
    (F : ∀ (w : World) (mg : Str → Option Value) (fa : Addr) (h : Heap), (K w.params).In h → h.Ns mainGlobals mg → mg d.name = some (.ref fa) →
      ∃ fd : FuncData, (∀ (s : Shared) (u : Value), BindsTo s fd ⟨[u], []⟩ [("script", u)]) ∧ ∀ base : Heap, (K w.params).In base → base.Ns mainGlobals mg → FnOk l.prog w (K w.params) mg base (L2.CX l.prog w) 11 fa fd ["script"] (spC (K w.params) cLaw)) :
    PySem.W.WalkO q loose XP YP l.row.toRowW d [] (fun f vs => PySem.call f vs) :=
  L2.walk_of (n := 63) (k := 11) (x := "script") (CX := fun w => L2.CX l.prog w) (sp := fun w => spC (K w.params) cLaw) hn (by decide) hdf ⟨rfl, by decide, by decide⟩ hY F (fun _ _ _ _ _ _ hS => law_sp hS) fun _ _ _ _ _ h => cx_no h
end Tst
open PySem PySem.W PyProof.Rows
set_option maxRecDepth 100000 in
set_option maxHeartbeats 0 in
theorem PySem.Challenge.cw_lampcrossings_k01_beats_joined_holds : PySem.Challenge.rw_lampcrossings_k01_beats_joined.Holds := by
  w_on; o_law; k_head; (case hw => w_witness2)
  k_fill
  refine Tst.walk (l := PySem.Challenge.rw_lampcrossings_k01_beats_joined) rfl rfl (fun w h Y => PySem.W.kIn_of Y) ?F
  case F =>
    intro w mg fa h KX G hmg
    refine' Tst.all_mk KX G hmg ?q0 ?q1 ?q2 ?q3 ?q4 ?q5 ?q6 ?q7 ?q8 ?q9 ?q10 ?q11 ?q12 ?q13 ?q14 ?q15 ?q16 ?q17 ?q18 ?q19 ?q20 ?q21 ?q22 ?q23 ?q24 ?q25 ?q26 ?q27 ?q28 ?q29 ?q30 ?q31 ?q32 ?q33 ?q34 ?q35 ?q36 ?q37 ?q38 ?q39 ?q40 ?q41 ?q42 ?q43 ?q44 ?q45 ?q46 ?q47 ?q48 ?q49 ?q50 ?q51 ?q52 ?q53 ?q54 ?q55 ?q56 ?q57 ?q58 ?q59 ?q60 ?q61 ?q62 ?q63 ?q64 ?q65 ?q66 ?q67 ?q68 ?q69 ?q70 ?q71 ?q72 ?q73 ?q74 ?q75 ?q76 ?q77 ?q78 ?q79 ?q80 ?q81 ?q82 ?q83 ?q84 ?q85 ?q86 ?q87 ?q88 ?q89 ?q90 ?q91 ?q92 ?q93 ?q94 ?q95 ?q96 ?q97 ?q98 ?q99 ?q100 ?q101 ?q102 ?q103 ?q104 ?q105 ?q106 ?q107 ?q108 ?q109 ?q110 ?q111 ?q112 ?q113 ?q114 ?q115 ?q116 ?q117 ?q118 ?q119 ?q120 ?q121 ?q122 ?q123 ?q124 ?q125 ?q126 ?q127 ?q128 ?q129 ?q130 ?q131 ?q132 ?q133 ?q134 ?q135 ?q136 ?q137 ?q138 ?q139 ?q140 ?q141 ?q142 ?q143 ?q144 ?q145 ?q146 ?q147 ?q148 ?q149 ?q150 ?q151 ?q152 ?q153 ?q154 ?q155 ?q156 ?q157 ?q158 ?q159 ?q160 ?q161 ?q162 ?q163 ?q164 ?q165 ?q166 ?q167 ?q168 ?q169 ?q170 ?q171 ?q172 ?q173 ?q174 ?q175 ?q176 ?q177 ?q178 ?q179 ?q180 ?q181 ?q182 ?q183 ?q184 ?q185 ?q186 ?q187 ?q188 ?q189 ?q190 ?q191
    (case q0 => k_is)
    (case q4 => k_is)
    (case q8 => k_is)
    (case q12 => k_is)
    (case q16 => k_is)
    (case q20 => k_is)
    (case q26 => k_is)
    (case q30 => k_is)
    (case q35 => k_is)
    (case q49 => k_is)
    (case q53 => k_is)
    (case q57 => k_is)
    (case q61 => k_is)
    (case q84 => k_is)
    (case q88 => k_is)
    (case q118 => k_is)
    (case q122 => k_is)
    (case q126 => k_is)
    (case q150 => k_is)
    (case q151 => k_is)
    (case q152 => k_is)
    (case q21 => k_is)
    (case q65 => k_is)
    (case q70 => k_is)
    (case q79 => k_is)
    (case q92 => k_is)
    (case q97 => k_is)
    (case q102 => k_is)
    (case q107 => k_is)
    (case q112 => k_is)
    (case q130 => k_is)
    (case q135 => k_is)
    (case q140 => k_is)
    (case q1 => k_is)
    (case q5 => k_is)
    (case q9 => k_is)
    (case q13 => k_is)
    (case q17 => k_is)
    (case q23 => k_is)
    (case q27 => k_is)
    (case q31 => k_is)
    (case q50 => k_is)
    (case q54 => k_is)
    (case q58 => k_is)
    (case q62 => k_is)
    (case q67 => k_is)
    (case q72 => k_is)
    (case q81 => k_is)
    (case q85 => k_is)
    (case q89 => k_is)
    (case q94 => k_is)
    (case q99 => k_is)
    (case q104 => k_is)
    (case q109 => k_is)
    (case q114 => k_is)
    (case q119 => k_is)
    (case q123 => k_is)
    (case q127 => k_is)
    (case q132 => k_is)
    (case q137 => k_is)
    (case q142 => k_is)
    (case q2 => k_is)
    (case q3 => k_is)
    (case q6 => k_is)
    (case q7 => k_is)
    (case q10 => k_is)
    (case q11 => k_is)
    (case q14 => k_is)
    (case q15 => k_is)
    (case q18 => k_is)
    (case q19 => k_is)
    (case q22 => k_is)
    (case q24 => k_is)
    (case q25 => k_is)
    (case q28 => k_is)
    (case q29 => k_is)
    (case q32 => k_is)
    (case q33 => k_is)
    (case q34 => k_is)
    (case q36 => k_exc)
    (case q37 => k_is)
    (case q38 => k_is)
    (case q39 => k_is)
    (case q40 => k_is)
    (case q41 => k_is)
    (case q42 => k_is)
    (case q43 => k_is)
    (case q44 => k_is)
    (case q45 => k_is)
    (case q46 => k_is)
    (case q47 => k_is)
    (case q48 => k_is)
    (case q51 => k_is)
    (case q52 => k_is)
    (case q55 => k_is)
    (case q56 => k_is)
    (case q59 => k_is)
    (case q60 => k_is)
    (case q63 => k_is)
    (case q64 => k_is)
    (case q66 => k_is)
    (case q68 => k_is)
    (case q69 => k_is)
    (case q71 => k_is)
    (case q73 => k_is)
    (case q74 => k_is)
    (case q75 => k_is)
    (case q76 => k_is)
    (case q77 => k_is)
    (case q78 => k_is)
    (case q80 => k_is)
    (case q82 => k_is)
    (case q83 => k_is)
    (case q86 => k_is)
    (case q87 => k_is)
    (case q90 => k_is)
    (case q91 => k_is)
    (case q93 => k_is)
    (case q95 => k_is)
    (case q96 => k_is)
    (case q98 => k_is)
    (case q100 => k_is)
    (case q101 => k_is)
    (case q103 => k_is)
    (case q105 => k_is)
    (case q106 => k_is)
    (case q108 => k_is)
    (case q110 => k_is)
    (case q111 => k_is)
    (case q113 => k_is)
    (case q115 => k_is)
    (case q116 => k_is)
    (case q117 => k_is)
    (case q120 => k_is)
    (case q121 => k_is)
    (case q124 => k_is)
    (case q125 => k_is)
    (case q128 => k_is)
    (case q129 => k_is)
    (case q131 => k_is)
    (case q133 => k_is)
    (case q134 => k_is)
    (case q136 => k_is)
    (case q138 => k_is)
    (case q139 => k_is)
    (case q141 => k_is)
    (case q143 => k_is)
    (case q144 => k_is)
    (case q145 => k_is)
    (case q146 => k_is)
    (case q147 => k_is)
    (case q148 => k_is)
    (case q149 => k_is)
    (case q153 => k_is)
    (case q154 => k_is)
    (case q155 => k_is)
    (case q156 => k_is)
    (case q157 => k_is)
    (case q158 => k_is)
    (case q159 => k_is)
    (case q160 => k_is)
    (case q161 => k_is)
    (case q162 => k_is)
    (case q163 => k_is)
    (case q164 => k_is)
    (case q165 => k_is)
    (case q166 => k_is)
    (case q167 => k_is)
    (case q168 => k_is)
    (case q169 => k_is)
    (case q170 => k_is)
    (case q171 => k_is)
    (case q172 => k_is)
    (case q173 => k_is)
    (case q174 => k_is)
    (case q175 => k_is)
    (case q176 => k_is)
    (case q177 => k_is)
    (case q178 => k_is)
    (case q179 => k_is)
    (case q180 => k_is)
    (case q181 => k_is)
    (case q182 => k_is)
    (case q183 => k_is)
    (case q184 => k_is)
    (case q185 => k_is)
    (case q186 => k_is)
    (case q187 => k_is)
    (case q188 => k_is)
    (case q189 => k_is)
    (case q190 => k_is)
    (case q191 => k_is)
#print axioms PySem.Challenge.cw_lampcrossings_k01_beats_joined_holds
