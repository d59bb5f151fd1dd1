import PyProof.Rows.All
import Wide.All
import OpenK.AllK
import Wide.FinOn
import HandS.ForMost
import HandS.ForExc
import HandS.IsInst
import HandS.TryOnly
import KE.GoesMore
import HandS.Style
import HandS.ExcIs
import KE.KExcIs
import HandS.Lambda
import HandS.StrMore
import HandS.ClsMeth
import HandS.Star
import HandS.SlotsOwn
import HandS.OwnIter
import HandS.IterVal
import HandS.EndBits
import KE.KOpsOwn
import KE.LtData
import KE.DatumOrd
import HandS.SortInts
import HandS.Conv
import HandS.ExcInit
import HandS.ExcField
import KE.KExcSuper
import HandS.Dict
import HandS.TryMany
import PyProof.StrOps2
import HandS.Zip
import HandS.Sort
import HandS.SortOrd
import HandS.SortRule
import PySem.Challenge.RW_movedposts_k02_placed_tables
set_option Elab.async false
set_option linter.all false
set_option maxRecDepth 100000
namespace Mir
open PySem PySem.Spec L2

/-! ### data -/
inductive D where
  | non | bl (b : Bool) | int (i : Int) | str (x : Str)
  | tup (xs : List D) | lst (xs : List D)
  | dct (kvs : List (List Key × D))
  | dks (kvs : List (Key × D))
  | obj (c : Nat) (fs : List (Str × D))
  | slf (a : Addr) (c : Nat) (fs : List (Str × D))
  | scr (ns : List Int)

structure Exc where
  c : Nat
  fs : List (Str × D)

inductive M (α : Type) where
  | stk | exn (e : Exc) | ok (a : α)

namespace M
def bind {α β : Type} (m : M α) (k : α → M β) : M β := match m with
  | stk => stk
  | exn e => exn e
  | ok a => k a
instance : Monad M where
  pure := ok
  bind := bind
/-- no way out by an exception -/
def nox {α : Type} : M α → M α
  | exn _ => stk
  | m => m
end M

inductive Ctl (X S : Type) where
  | stk | exn (e : Exc) (x : X) | ret (d : D) | nx (s : S)

namespace Ctl
def bind {X S T : Type} (c : Ctl X S) (k : S → Ctl X T) : Ctl X T := match c with
  | stk => stk
  | exn e x => exn e x
  | ret d => ret d
  | nx s => k s
end Ctl
def M.bindC {X S α : Type} (m : M α) (x : X) (k : α → Ctl X S) : Ctl X S := match m with
  | .stk => .stk
  | .exn e => .exn e x
  | .ok a => k a
def Ctl.toM {X S : Type} : Ctl X S → M D
  | .stk => .stk
  | .exn e _ => .exn e
  | .ret d => .ok d
  | .nx _ => .ok .non

/-! ### what of the program is known: the written part, the classes, the exceptions' classes -/
structure GG where
  P : Program
  w : World
  K : PySem.W.Frag
  mg : Str → Option Value
  base : Heap
  ca : Nat → Addr
  xc : Nat → Value

abbrev Ex (H H' : Hp) : Prop := Same H H'

mutual
inductive Rep (G : GG) (S : Hp) : V → D → Prop
  | non : Rep G S .non .non
  | bl (b : Bool) : Rep G S (.bl b) (.bl b)
  | int (i : Int) : Rep G S (.int i) (.int i)
  | str (x : Str) : Rep G S (.str x) (.str x)
  | tup {p : Addr} {vs : List V} {ds : List D} : S p = some (.tup vs) → Reps G S vs ds → Rep G S (.ref p) (.tup ds)
  | lst {p : Addr} {vs : List V} {ds : List D} : S p = some (.lst vs) → Reps G S vs ds → Rep G S (.ref p) (.lst ds)
  | scr {p : Addr} {ns : List Int} : SqL G.K S p (ns.map V.int) → Rep G S (.ref p) (.scr ns)
  | dct {p : Addr} {ks : List (List Key × V)} {kvs : List (List Key × D)} : Rd S p (.dT ks) → ks.map (·.1) = kvs.map (·.1) → Reps G S (ks.map (·.2)) (kvs.map (·.2)) → Rep G S (.ref p) (.dct kvs)
  | dks {p : Addr} {ks : List (Key × V)} {kvs : List (Key × D)} : Rd S p (.dK ks) → ks.map (·.1) = kvs.map (·.1) → Reps G S (ks.map (·.2)) (kvs.map (·.2)) → Rep G S (.ref p) (.dks kvs)
  | obj {a dx : Addr} {c : Nat} {vs : List (Str × V)} {fs : List (Str × D)} : S a = some (.ins (G.ca c) dx vs) → S dx = some (HO.own a) → vs.map (·.1) = fs.map (·.1) → Reps G S (vs.map (·.2)) (fs.map (·.2)) → Rep G S (.ref a) (.obj c fs)
  | slf {a dx : Addr} {c : Nat} {vs : List (Str × V)} {fs : List (Str × D)} : S a = some (.ins (G.ca c) dx vs) → S dx = some (HO.own a) → vs.map (·.1) = fs.map (·.1) → Reps G S (vs.map (·.2)) (fs.map (·.2)) → Rep G S (.ref a) (.slf a c fs)
inductive Reps (G : GG) (S : Hp) : List V → List D → Prop
  | nil : Reps G S [] []
  | cons {v : V} {vs : List V} {d : D} {ds : List D} : Rep G S v d → Reps G S vs ds → Reps G S (v :: vs) (d :: ds)
end

section
variable {G : GG} {S S' : Hp}
theorem ex_rd {a : Addr} {u : HO} (e : Ex S S') (h : Rd S a u) : Rd S' a u := by
  rcases h with h | ⟨o, h⟩
  · exact Or.inl (e a _ h)
  · exact Or.inr ⟨o, e a _ h⟩
theorem ex_l {K : PySem.W.Frag} {a : Addr} {xs : List V} (e : Ex S S') (h : SqL K S a xs) : SqL K S' a xs := by
  rcases h with h | h
  · exact Or.inl (ex_rd e h)
  · exact Or.inr h
theorem ex_t {K : PySem.W.Frag} {a : Addr} {xs : List V} (e : Ex S S') (h : SqT K S a xs) : SqT K S' a xs := by
  rcases h with h | h
  · exact Or.inl (ex_rd e h)
  · exact Or.inr h
mutual
theorem Rep.mono (e : Ex S S') : ∀ {v : V} {d : D}, Rep G S v d → Rep G S' v d
  | _, _, .non => .non
  | _, _, .bl b => .bl b
  | _, _, .int i => .int i
  | _, _, .str x => .str x
  | _, _, .tup h r => .tup (e _ _ h) (Reps.mono e r)
  | _, _, .lst h r => .lst (e _ _ h) (Reps.mono e r)
  | _, _, .scr h => .scr (ex_l e h)
  | _, _, .dct h n r => .dct (ex_rd e h) n (Reps.mono e r)
  | _, _, .dks h n r => .dks (ex_rd e h) n (Reps.mono e r)
  | _, _, .obj h k n r => .obj (e _ _ h) (e _ _ k) n (Reps.mono e r)
  | _, _, .slf h k n r => .slf (e _ _ h) (e _ _ k) n (Reps.mono e r)
theorem Reps.mono (e : Ex S S') : ∀ {vs : List V} {ds : List D}, Reps G S vs ds → Reps G S' vs ds
  | _, _, .nil => .nil
  | _, _, .cons h r => .cons (Rep.mono e h) (Reps.mono e r)
end
theorem Reps.length : ∀ {vs : List V} {ds : List D}, Reps G S vs ds → vs.length = ds.length
  | _, _, .nil => rfl
  | _, _, .cons _ r => congrArg Nat.succ (Reps.length r)
theorem Reps.get : ∀ {vs : List V} {ds : List D} {i : Nat} {d : D}, Reps G S vs ds → ds[i]? = some d → ∃ v, vs[i]? = some v ∧ Rep G S v d
  | _, _, _, _, .nil, e => by simp at e
  | _, _, 0, _, .cons h _, e => by
    simp at e
    subst e
    exact ⟨_, rfl, h⟩
  | _, _, i + 1, _, .cons _ r, e => by
    obtain ⟨v, h1, h2⟩ := Reps.get (i := i) r (by simpa using e)
    exact ⟨v, by simpa using h1, h2⟩
theorem Reps.append : ∀ {vs : List V} {ds : List D} {us : List V} {es : List D}, Reps G S vs ds → Reps G S us es → Reps G S (vs ++ us) (ds ++ es)
  | _, _, _, _, .nil, s => s
  | _, _, _, _, .cons h r, s => .cons h (Reps.append r s)
theorem Reps.take : ∀ {vs : List V} {ds : List D} (n : Nat), Reps G S vs ds → Reps G S (vs.take n) (ds.take n)
  | _, _, 0, _ => .nil
  | _, _, _ + 1, .nil => .nil
  | _, _, n + 1, .cons h r => .cons h (Reps.take n r)
theorem Reps.drop : ∀ {vs : List V} {ds : List D} (n : Nat), Reps G S vs ds → Reps G S (vs.drop n) (ds.drop n)
  | _, _, 0, r => r
  | _, _, _ + 1, .nil => .nil
  | _, _, n + 1, .cons _ r => Reps.drop n r
theorem Reps.set {v : V} {d : D} (h : Rep G S v d) : ∀ {vs : List V} {ds : List D} (i : Nat), Reps G S vs ds → Reps G S (vs.set i v) (ds.set i d)
  | _, _, _, .nil => .nil
  | _, _, 0, .cons _ r => .cons h r
  | _, _, i + 1, .cons k r => .cons k (Reps.set h i r)
end

/-! ### growth -/
/-- something stands there that is no tuple (a tuple may become everybody's at any time) -/
def Solid (H : Hp) (p : Addr) : Prop := ∃ o, H p = some o ∧ ∀ xs, o ≠ HO.tup xs
theorem Solid.ne {H : Hp} {p : Addr} (h : Solid H p) : H p ≠ none := fun z => by
  obtain ⟨o, e, _⟩ := h
  rw [z] at e
  cases e
theorem Solid.mono {H H' : Hp} {p : Addr} (h : Solid H p) (e : Ex H H') : Solid H' p := let ⟨o, a, b⟩ := h; ⟨o, e _ _ a, b⟩
structure Grow (S H S' H' : Hp) : Prop where
  s : Ex S S'
  h : Ex H H'
  sub : Ex S' H'
  sep : ∀ p, Solid H p → S p = none → S' p = none
theorem Grow.refl {S H : Hp} (e : Ex S H) : Grow S H S H := ⟨Same.refl _, Same.refl _, e, fun _ _ h => h⟩
theorem ne_none {H H' : Hp} (e : Ex H H') {p : Addr} (h : H p ≠ none) : H' p ≠ none := by
  cases q : H p with
  | none => exact absurd q h
  | some o => rw [e p o q]; exact fun z => by cases z
theorem Grow.trans {S H S1 H1 S2 H2 : Hp} (a : Grow S H S1 H1) (b : Grow S1 H1 S2 H2) : Grow S H S2 H2 :=
  ⟨a.s.trans b.s, a.h.trans b.h, b.sub, fun p h1 h2 => b.sep p (h1.mono a.h) (a.sep p h1 h2)⟩
theorem ex_upd {H : Hp} {p : Addr} {o : HO} (h : H p = none) : Ex H (upd H p o) := fun a u e => by
  rw [upd_ne (ne_of_none e h)]
  exact e
theorem sub_none {S H : Hp} (e : Ex S H) {p : Addr} (h : H p = none) : S p = none := e.free h
/-- a new shared object -/
theorem Grow.new {S H : Hp} (e : Ex S H) {p : Addr} {o : HO} (h : H p = none) : Grow S H (upd S p o) (upd H p o) := by
  have hs := sub_none e h
  refine ⟨ex_upd hs, ex_upd h, fun a u q => ?_, fun q h1 h2 => ?_⟩
  · by_cases z : a = p
    · subst z; rw [upd_same] at q ⊢; exact q
    · rw [upd_ne z] at q ⊢; exact e a u q
  · by_cases z : q = p
    · subst z; exact absurd h h1.ne
    · rw [upd_ne z]; exact h2
/-- a new object that is not shared -/
theorem Grow.newOwn {S H : Hp} (e : Ex S H) {p : Addr} {o : HO} (h : H p = none) : Grow S H S (upd H p o) :=
  ⟨Same.refl _, ex_upd h, fun a u q => by rw [upd_ne (ne_of_none (e a u q) h)]; exact e a u q, fun _ _ h => h⟩

/-! ### the slots -/
/-- a caught exception: where it is, its dict and the fields that stand there -/
structure RefK where
  a : Addr
  x : Option (Addr × List (Str × D))
inductive Sl where
  | unk | val (d : D) | own (d : D) | ref (a : RefK)
def ExAt (G : GG) (S : Hp) (k : RefK) : Prop := ∀ dd fs, k.x = some (dd, fs) → ∃ vs : List (Str × V), S dd = some (.xd vs) ∧ vs.map (·.1) = fs.map (·.1) ∧ Reps G S (vs.map (·.2)) (fs.map (·.2))
theorem ExAt.mono {G : GG} {S S' : Hp} {k : RefK} (h : ExAt G S k) (e : Ex S S') : ExAt G S' k := fun dd fs z => let ⟨vs, a, n, r⟩ := h dd fs z; ⟨vs, e _ _ a, n, r.mono e⟩
abbrev Gam := List Sl

def OwnAt (G : GG) (H0 S H : Hp) (p : Addr) : D → Prop
  | .lst ds => ∃ vs, H p = some (.lst vs) ∧ Reps G S vs ds
  | .dct kvs => ∃ ks, H p = some (.dT ks) ∧ ks.map (·.1) = kvs.map (·.1) ∧ Reps G S (ks.map (·.2)) (kvs.map (·.2))
  | .dks kvs => ∃ ks, H p = some (.dK ks) ∧ ks.map (·.1) = kvs.map (·.1) ∧ Reps G S (ks.map (·.2)) (kvs.map (·.2))
  | .obj c fs => ∃ dx vs, H p = some (.ins (G.ca c) dx vs) ∧ H dx = some (.own p) ∧ S dx = none ∧ H0 dx = none ∧ vs.map (·.1) = fs.map (·.1) ∧ Reps G S (vs.map (·.2)) (fs.map (·.2))
  | .slf a c fs => p = a ∧ ∃ dx vs, H p = some (.ins (G.ca c) dx vs) ∧ H dx = some (.own p) ∧ S dx = none ∧ H0 dx = none ∧ vs.map (·.1) = fs.map (·.1) ∧ Reps G S (vs.map (·.2)) (fs.map (·.2))
  | _ => False

structure Holds (G : GG) (H0 : Hp) (σ : St) (S H : Hp) (Γ : Gam) : Prop where
  ex : Ex S H
  e0 : Ex H0 H
  len : Γ.length ≤ σ.length
  val : ∀ (i : Nat) d, Γ[i]? = some (Sl.val d) → ∃ v, σ[i]? = some (some v) ∧ Rep G S v d
  own : ∀ (i : Nat) d, Γ[i]? = some (Sl.own d) → ∃ p, σ[i]? = some (some (.ref p)) ∧ S p = none ∧ H0 p = none ∧ OwnAt G H0 S H p d
  dis : ∀ (i j : Nat) d e p, Γ[i]? = some (Sl.own d) → Γ[j]? = some (Sl.own e) → σ[i]? = some (some (.ref p)) → σ[j]? = some (some (.ref p)) → i = j
  ref : ∀ (i : Nat) a, Γ[i]? = some (Sl.ref a) → σ[i]? = some (some (.ref a.a)) ∧ ExAt G S a

theorem set_ref {Γ : Gam} {i j : Nat} {s : Sl} {a : RefK} (h : (Γ.set i s)[j]? = some (Sl.ref a)) (n : ∀ a, s ≠ Sl.ref a) : i ≠ j ∧ Γ[j]? = some (Sl.ref a) := by
  by_cases z : i = j
  · subst z
    by_cases hl : i < Γ.length
    · rw [List.getElem?_set_self hl] at h; exact absurd (Option.some.inj h) (n a)
    · rw [List.getElem?_eq_none (by simpa using hl)] at h; cases h
  · rw [List.getElem?_set_ne z] at h
    exact ⟨z, h⟩
theorem OwnAt.there {G : GG} {H0 S H : Hp} {p : Addr} {d : D} (h : OwnAt G H0 S H p d) : H p ≠ none := by
  cases d with
  | lst ds => obtain ⟨_, e, _⟩ := h; rw [e]; exact fun z => by cases z
  | dct ds => obtain ⟨_, e, _⟩ := h; rw [e]; exact fun z => by cases z
  | dks ds => obtain ⟨_, e, _⟩ := h; rw [e]; exact fun z => by cases z
  | obj c fs => obtain ⟨_, _, e, _⟩ := h; rw [e]; exact fun z => by cases z
  | slf a c fs => obtain ⟨_, _, _, e, _⟩ := h; rw [e]; exact fun z => by cases z
  | _ => exact False.elim h
theorem OwnAt.solid {G : GG} {H0 S H : Hp} {p : Addr} {d : D} (h : OwnAt G H0 S H p d) : Solid H p := by
  cases d with
  | lst ds => obtain ⟨_, e, _⟩ := h; exact ⟨_, e, fun _ z => by cases z⟩
  | dct ds => obtain ⟨_, e, _⟩ := h; exact ⟨_, e, fun _ z => by cases z⟩
  | dks ds => obtain ⟨_, e, _⟩ := h; exact ⟨_, e, fun _ z => by cases z⟩
  | obj c fs => obtain ⟨_, _, e, _⟩ := h; exact ⟨_, e, fun _ z => by cases z⟩
  | slf a c fs => obtain ⟨_, _, _, e, _⟩ := h; exact ⟨_, e, fun _ z => by cases z⟩
  | _ => exact False.elim h
theorem OwnAt.grow {G : GG} {H0 S H S' H' : Hp} {p : Addr} {d : D} (g : Grow S H S' H') (h : OwnAt G H0 S H p d) : OwnAt G H0 S' H' p d := by
  cases d with
  | lst ds => obtain ⟨vs, e, r⟩ := h; exact ⟨vs, g.h _ _ e, r.mono g.s⟩
  | dct ds => obtain ⟨vs, e, n, r⟩ := h; exact ⟨vs, g.h _ _ e, n, r.mono g.s⟩
  | dks ds => obtain ⟨vs, e, n, r⟩ := h; exact ⟨vs, g.h _ _ e, n, r.mono g.s⟩
  | obj c fs => obtain ⟨dx, vs, e, e2, e3, e4, n, r⟩ := h; exact ⟨dx, vs, g.h _ _ e, g.h _ _ e2, g.sep _ ⟨_, e2, fun _ z => by cases z⟩ e3, e4, n, r.mono g.s⟩
  | slf a c fs => obtain ⟨hp, dx, vs, e, e2, e3, e4, n, r⟩ := h; exact ⟨hp, dx, vs, g.h _ _ e, g.h _ _ e2, g.sep _ ⟨_, e2, fun _ z => by cases z⟩ e3, e4, n, r.mono g.s⟩
  | _ => exact False.elim h
theorem Holds.grow {G : GG} {H0 : Hp} {σ : St} {S H S' H' : Hp} {Γ : Gam} (h : Holds G H0 σ S H Γ) (g : Grow S H S' H') : Holds G H0 σ S' H' Γ where
  ex := g.sub
  e0 := h.e0.trans g.h
  len := h.len
  val := fun i d e => let ⟨v, a, b⟩ := h.val i d e; ⟨v, a, b.mono g.s⟩
  own := fun i d e => let ⟨p, a, b, c, o⟩ := h.own i d e; ⟨p, a, g.sep p o.solid b, c, o.grow g⟩
  dis := h.dis
  ref := fun i a e => ⟨(h.ref i a e).1, (h.ref i a e).2.mono g.s⟩

/-- Γ knows all that Δ says -/
inductive Weak : Gam → Gam → Prop
  | nil {Γ : Gam} : Weak Γ []
  | unk {s : Sl} {Γ Δ : Gam} : Weak Γ Δ → Weak (s :: Γ) (.unk :: Δ)
  | same {s : Sl} {Γ Δ : Gam} : Weak Γ Δ → Weak (s :: Γ) (s :: Δ)
theorem Weak.get : ∀ {Γ Δ : Gam}, Weak Γ Δ → ∀ {i : Nat} {s : Sl}, Δ[i]? = some s → s = .unk ∨ Γ[i]? = some s
  | _, _, .nil, i, s, e => by simp at e
  | _, _, .unk w, 0, s, e => by simp at e; exact .inl e.symm
  | _, _, .same w, 0, s, e => .inr (by simpa using e)
  | _, _, .unk w, i + 1, s, e => by simpa using Weak.get w (i := i) (by simpa using e)
  | _, _, .same w, i + 1, s, e => by simpa using Weak.get w (i := i) (by simpa using e)
theorem Weak.len {Γ Δ : Gam} (w : Weak Γ Δ) : Δ.length ≤ Γ.length := by
  induction w with
  | nil => exact Nat.zero_le _
  | unk _ ih => exact Nat.succ_le_succ ih
  | same _ ih => exact Nat.succ_le_succ ih
theorem Weak.refl : ∀ {Γ : Gam}, Weak Γ Γ
  | [] => .nil
  | _ :: _ => .same Weak.refl
theorem Weak.trans {Γ Δ Θ : Gam} (a : Weak Γ Δ) (b : Weak Δ Θ) : Weak Γ Θ := by
  induction b generalizing Γ with
  | nil => exact .nil
  | unk w ih => cases a with
    | unk a => exact .unk (ih a)
    | same a => exact .unk (ih a)
  | same w ih => cases a with
    | unk a => exact .unk (ih a)
    | same a => exact .same (ih a)
theorem Holds.weak {G : GG} {H0 : Hp} {σ : St} {S H : Hp} {Γ Δ : Gam} (h : Holds G H0 σ S H Γ) (w : Weak Γ Δ) : Holds G H0 σ S H Δ where
  ex := h.ex
  e0 := h.e0
  len := Nat.le_trans w.len h.len
  val := fun i d e => (w.get e).elim (fun z => by cases z) fun e => h.val i d e
  own := fun i d e => (w.get e).elim (fun z => by cases z) fun e => h.own i d e
  dis := fun i j d e p a b => (w.get a).elim (fun z => by cases z) fun a => (w.get b).elim (fun z => by cases z) fun b => h.dis i j d e p a b
  ref := fun i a e => (w.get e).elim (fun z => by cases z) fun e => h.ref i a e

theorem Holds.set {G : GG} {H0 : Hp} {σ : St} {S H : Hp} {Γ : Gam} (h : Holds G H0 σ S H Γ) {i : Nat} {v : V} {d : D} (r : Rep G S v d) : Holds G H0 (σ.set i (some v)) S H (Γ.set i (Sl.val d)) := by
  refine ⟨h.ex, h.e0, by simpa using h.len, fun j e q => ?_, fun j e q => ?_, fun j k a b p q1 q2 q3 q4 => ?_, fun j a q => by obtain ⟨n, q⟩ := set_ref q (fun _ z => by cases z); rw [List.getElem?_set_ne n]; exact h.ref j a q⟩
  · by_cases z : i = j
    · subst z
      have hl : i < Γ.length := by
        by_cases hl : i < Γ.length
        · exact hl
        · rw [List.getElem?_eq_none (by simpa using hl)] at q; cases q
      rw [List.getElem?_set_self hl] at q
      cases q
      exact ⟨v, List.getElem?_set_self (Nat.lt_of_lt_of_le hl h.len), r⟩
    · rw [List.getElem?_set_ne z] at q ⊢
      exact h.val j e q
  · by_cases z : i = j
    · subst z
      by_cases hl : i < Γ.length
      · rw [List.getElem?_set_self hl] at q; cases q
      · rw [List.getElem?_eq_none (by simpa using hl)] at q; cases q
    · rw [List.getElem?_set_ne z] at q ⊢
      exact h.own j e q
  · have ne : ∀ {j : Nat} {a : D}, (Γ.set i (Sl.val d))[j]? = some (Sl.own a) → i ≠ j := fun {j a} q z => by
      subst z
      by_cases hl : i < Γ.length
      · rw [List.getElem?_set_self hl] at q; cases q
      · rw [List.getElem?_eq_none (by simpa using hl)] at q; cases q
    have n1 := ne q1
    have n2 := ne q2
    rw [List.getElem?_set_ne n1] at q1 q3
    rw [List.getElem?_set_ne n2] at q2 q4
    exact h.dis j k a b p q1 q2 q3 q4
end Mir
namespace Mir
open PySem PySem.Spec L2

/-! ### a family of contexts -/
structure Fm where
  G : GG
  W : WX
  N : List Str
  V : List Bool
  L : List Bool
  kd : List (Str × NameKind)
  Xs : Cx → Prop
  k : Nat
  cm : Bool
  top : Bool
  fr : Bool
  hX : ∀ X, Xs X → X.prog = G.P ∧ X.w = G.w ∧ X.K = G.K ∧ X.mg = G.mg ∧ X.base = G.base ∧ X.N = N
  nd : N.Nodup
  hkd : ∀ X, Xs X → X.env.scope.names = kd
  hki : ∀ X, Xs X → X.env.scope.kind = .function
  vis : ∀ X, Xs X → ∀ (i : Nat) x, V[i]? = some true → N[i]? = some x → Vis X.env.scope x
  loc : ∀ X, Xs X → ∀ (i : Nat) x, L[i]? = some true → N[i]? = some x → Loc X.env.scope x ∧ (X.fn x = true ∨ X.env.scope.names.lookup x = some .local)
  hc : cm = true → ∀ X, Xs X → X.calm = true
  hr : cm = true → ∀ X, Xs X → Room k X.A
  hu : ∀ X, Xs X → X.A.units + 64 < cLine
  tk : ∀ X, Xs X → Takes X W
  po : ∀ X, Xs X → PassesOwn (model X.prog X.w) X.A X.env X.xe
  ht : top = true → ∀ X, Xs X → X.stack = X.env :: X.outer ∧ X.env.frame = some X.env.locals ∧ X.ex = []
theorem Fm.hK (F : Fm) (X : Cx) (h : F.Xs X) : X.K = F.G.K := (F.hX X h).2.2.1
theorem Fm.hN (F : Fm) (X : Cx) (h : F.Xs X) : X.N = F.N := (F.hX X h).2.2.2.2.2
theorem Fm.gl (F : Fm) (X : Cx) (h : F.Xs X) {x : Str} (k : F.kd.lookup x = some .globalImplicit) : Gl X x := by
  show X.env.scope.names.lookup x = _
  rw [F.hkd X h]
  exact k

def RepX (G : GG) (S : Hp) (cls : Value) (dd : Option Addr) (e : Exc) : Prop :=
  cls = G.xc e.c ∧ ((e.fs = [] ∧ dd = none) ∨ e.fs ≠ [] ∧ ∃ d vs, dd = some d ∧ S d = some (.xd vs) ∧ vs.map (·.1) = e.fs.map (·.1) ∧ Reps G S (vs.map (·.2)) (e.fs.map (·.2)))

def Po {α : Type} (G : GG) (E : XK) (S H : Hp) (K : α → Hp → Hp → Prop) : M α → Prop
  | .stk => False
  | .exn e => ∀ cls dd S' H', Grow S H S' H' → RepX G S' cls dd e → E cls dd H'
  | .ok a => ∀ S' H', Grow S H S' H' → K a S' H'

section
variable {G : GG} {E : XK} {α β : Type} {S H S1 H1 : Hp} {K K' : α → Hp → Hp → Prop}
theorem Po.step {m : M α} (p : Po G E S H K m) (g : Grow S H S1 H1) : Po G E S1 H1 K m := by
  cases m with
  | stk => exact p
  | exn e => exact fun cls dd S' H' g' => p cls dd S' H' (g.trans g')
  | ok a => exact fun S' H' g' => p S' H' (g.trans g')
theorem Po.bind {K : β → Hp → Hp → Prop} {m : M α} {k : α → M β} (p : Po G E S H K (m.bind k)) : Po G E S H (fun a S' H' => Po G E S' H' K (k a)) m := by
  cases m with
  | stk => exact p
  | exn e => exact p
  | ok a => exact fun S' H' g => Po.step (m := k a) p g
theorem Po.imp {m : M α} (p : Po G E S H K m) (h : ∀ a S' H', Grow S H S' H' → K a S' H' → K' a S' H') : Po G E S H K' m := by
  cases m with
  | stk => exact p
  | exn e => exact p
  | ok a => exact fun S' H' g => h a S' H' g (p S' H' g)
theorem Po.gate {c : Prop} [Decidable c] {m : M α} (p : Po G E S H K (if c then m else .stk)) : c ∧ Po G E S H K m := by
  by_cases h : c
  · rw [if_pos h] at p; exact ⟨h, p⟩
  · rw [if_neg h] at p; exact False.elim p
theorem Po.ok {a : α} (e : Ex S H) (p : Po G E S H K (.ok a)) : K a S H := p S H (Grow.refl e)
end

abbrev KE (F : Fm) (Q : VK) : D → Hp → Hp → Prop := fun d S H => ∀ v, Rep F.G S v d → Q v H
abbrev KA (F : Fm) (Q : List V → Hp → Prop) : List D → Hp → Hp → Prop := fun ds S H => ∀ vs, Reps F.G S vs ds → Q vs H
abbrev KT (Q : Bool → Hp → Prop) : Bool → Hp → Hp → Prop := fun b _ H => Q b H

def EvM (F : Fm) (te : TE) (Γ : Gam) (m : M D) : Prop := ∀ H0 σ S H Q, Holds F.G H0 σ S H Γ → Po F.G (WE F.W σ) S H (KE F Q) m → te σ H Q
def EvA (F : Fm) (ta : TA) (Γ : Gam) (m : M (List D)) : Prop := ∀ H0 σ S H Q, Holds F.G H0 σ S H Γ → Po F.G (WE F.W σ) S H (KA F Q) m → ta σ H Q
def EvT (F : Fm) (tt : TT) (Γ : Gam) (m : M Bool) : Prop := ∀ H0 σ S H Q, Holds F.G H0 σ S H Γ → Po F.G (WE F.W σ) S H (KT Q) m → tt σ H Q

def EM (F : Fm) (e : Expr) (Γ : Gam) (m : M D) : Prop := ∃ t, (∀ X, F.Xs X → PE X e t) ∧ EvM F t Γ m
def AM (F : Fm) (es : List Expr) (Γ : Gam) (m : M (List D)) : Prop := ∃ t, (∀ X, F.Xs X → PA X es t) ∧ EvA F t Γ m
def TM (F : Fm) (e : Expr) (Γ : Gam) (m : M Bool) : Prop := ∃ t, (∀ X, F.Xs X → PT X e t) ∧ EvT F t Γ m
def WM (F : Fm) (e : Expr) (Γ : Gam) (m : M Bool) : Prop := ∃ t, (∀ X, F.Xs X → PW X e t) ∧ EvT F t Γ m

/-! ### operations on data -/
def b1 {α β : Type} (f : α → M β) (a : M α) : M β := a.bind f
def b2 {α β γ : Type} (f : α → β → M γ) (a : M α) (b : M β) : M γ := a.bind fun x => b.bind fun y => f x y

def RM (F : Fm) (r : R2) (f : D → D → M D) : Prop := ∀ x y vx vy σ S H Q, Ex S H → Rep F.G S vx x → Rep F.G S vy y → Po F.G (WE F.W σ) S H (KE F Q) (f x y) → r vx vy H Q

section
variable {F : Fm} {Γ : Gam} {a b c e : Expr} {es : List Expr} {ma mb mc m : M D} {pos : Pos}

theorem em_var (i : Nat) {x : Str} {d : D} (hn : F.N[i]? = some x) (hv : F.V[i]? = some true) (hΓ : Γ[i]? = some (Sl.val d))
    (hd : (x == ("__debug__" : Str)) = false := by decide) (hcd : (x == ("__classdict__" : Str)) = false := by decide) : EM F (.Name x pos) Γ (.ok d) := by
  refine ⟨tVar i, fun X hX => pe_var (by rw [F.hN X hX]; exact hn) (F.vis X hX i x hv hn) hd hcd, fun H0 σ S H Q hh p => ?_⟩
  obtain ⟨v, hv, r⟩ := hh.val i d hΓ
  exact ⟨v, hv, p.ok hh.ex v r⟩
theorem em_int {i : Int} {j} : EM F (.Constant (.int i) j pos) Γ (.ok (.int i)) := ⟨_, fun X _ => pe_int, fun H0 σ S H Q hh p => p.ok hh.ex _ (.int i)⟩
theorem em_bl {i : Bool} {j} : EM F (.Constant (.bool i) j pos) Γ (.ok (.bl i)) := ⟨_, fun X _ => pe_bl, fun H0 σ S H Q hh p => p.ok hh.ex _ (.bl i)⟩
theorem em_str {i : Str} {j} : EM F (.Constant (.str i) j pos) Γ (.ok (.str i)) := ⟨_, fun X _ => pe_str, fun H0 σ S H Q hh p => p.ok hh.ex _ (.str i)⟩
theorem em_non {j} : EM F (.Constant .none j pos) Γ (.ok .non) := ⟨_, fun X _ => pe_non, fun H0 σ S H Q hh p => p.ok hh.ex _ .non⟩

/-- two in a row -/
theorem ev2 {ta tb : TE} {R : V → V → Hp → Prop} {H0 : Hp} {σ : L2.St} {S H : Hp} {K : D → Hp → Hp → Prop} {f : D → D → M D} (ha : EvM F ta Γ ma) (hb : EvM F tb Γ mb) (hh : Holds F.G H0 σ S H Γ) (p : Po F.G (WE F.W σ) S H K (b2 f ma mb))
    (h : ∀ x y vx vy S2 H2, Grow S H S2 H2 → Rep F.G S2 vx x → Rep F.G S2 vy y → Po F.G (WE F.W σ) S2 H2 K (f x y) → R vx vy H2) : ta σ H fun x H1 => tb σ H1 fun y H2 => R x y H2 := by
  refine ha H0 σ S H _ hh (Po.bind p |>.imp fun x S1 H1 g1 q1 vx rx => ?_)
  refine hb H0 σ S1 H1 _ (hh.grow g1) (Po.bind q1 |>.imp fun y S2 H2 g2 q2 vy ry => ?_)
  exact h x y vx vy S2 H2 (g1.trans g2) (rx.mono g2.s) ry q2
theorem em_op {op : Operator} {r : R2} {f : D → D → M D} (ho : ∀ X, F.Xs X → OpR X (binaryOp op) r) (hf : RM F r f) (ha : EM F a Γ ma) (hb : EM F b Γ mb) : EM F (.BinOp a op b pos) Γ (b2 f ma mb) := by
  obtain ⟨ta, pa, ea⟩ := ha
  obtain ⟨tb, pb, eb⟩ := hb
  exact ⟨tOp r ta tb, fun X hX => pe_op (ho X hX) (pa X hX) (pb X hX), fun H0 σ S H Q hh p => ev2 ea eb hh p fun x y vx vy S2 H2 g rx ry q => hf x y vx vy σ S2 H2 Q g.sub rx ry q⟩
/-- a comparison as a value, as a test -/
theorem em_cmp {op : CmpOp} {r : R2} {f : D → D → M D} (ho : ∀ X, F.Xs X → OpR X (compareOp op) r) (hf : RM F r f) (ha : EM F a Γ ma) (hb : EM F b Γ mb) (hm : behindInMarks op b = false) : EM F (.Compare a [op] [b] pos) Γ (b2 f ma mb) := by
  obtain ⟨ta, pa, ea⟩ := ha
  obtain ⟨tb, pb, eb⟩ := hb
  exact ⟨tOp r ta tb, fun X hX => pe_cmpR (ho X hX) (pa X hX) (pb X hX) hm, fun H0 σ S H Q hh p => ev2 ea eb hh p fun x y vx vy S2 H2 g rx ry q => hf x y vx vy σ S2 H2 Q g.sub rx ry q⟩
def isB : D → M Bool
  | .bl b => .ok b
  | _ => .stk
theorem tm_cmp {op : CmpOp} {r : R2} {f : D → D → M D} (ho : ∀ X, F.Xs X → OpR X (compareOp op) r) (hf : RM F r f) (ha : EM F a Γ ma) (hb : EM F b Γ mb) (hm : behindInMarks op b = false) : TM F (.Compare a [op] [b] pos) Γ (b1 isB (b2 f ma mb)) := by
  obtain ⟨ta, pa, ea⟩ := ha
  obtain ⟨tb, pb, eb⟩ := hb
  refine ⟨tTest (tOp r ta tb), fun X hX => pt_cmpR (ho X hX) (pa X hX) (pb X hX) hm, fun H0 σ S H Q hh p => ?_⟩
  refine ev2 (K := KE F fun x H' => ∃ k, x = .bl k ∧ Q k H') ea eb hh (Po.bind p |>.imp fun d S' H' g q v r => ?_) fun x y vx vy S2 H2 g rx ry q => hf x y vx vy σ S2 H2 _ g.sub rx ry q
  cases r with
  | bl k => exact ⟨k, rfl, Po.ok g.sub q⟩
  | _ => exact False.elim q
def isI : D → M Int
  | .int i => .ok i
  | _ => .stk

/-! ### arithmetic -/
def pyAdd : D → D → M D
  | .int a, .int b => .ok (.int (a + b))
  | .str a, .str b => if a.length + b.length ≤ sizeLine then .ok (.str (a ++ b)) else .stk
  | .lst a, .lst b => if a.length + b.length ≤ sizeLine then .ok (.lst (a ++ b)) else .stk
  | _, _ => .stk
def pySub : D → D → M D
  | .int a, .int b => .ok (.int (a - b))
  | _, _ => .stk
def pyMul : D → D → M D
  | .int a, .int b => if (-(2 ^ 64) < a ∧ a < 2 ^ 64) ∨ (-(2 ^ 64) < b ∧ b < 2 ^ 64) then .ok (.int (a * b)) else .stk
  | _, _ => .stk
def pyMod : D → D → M D
  | .int a, .int b => if 0 < b then .ok (.int (a % b)) else .stk
  | _, _ => .stk
def pyDiv : D → D → M D
  | .int a, .int b => if 0 < b ∧ b < 1073741824 then .ok (.int (a / b)) else .stk
  | _, _ => .stk
def pyPow : D → D → M D
  | .int a, .int b => if 0 ≤ b ∧ b ≤ 1000000 ∧ a.natAbs < 2 ^ 64 then .ok (.int (a ^ b.toNat)) else .stk
  | _, _ => .stk
def pyNeg : D → M D
  | .int a => .ok (.int (-a))
  | _ => .stk

def rAddA (K : PySem.W.Frag) : R2 := fun x y H Q => (∃ i j, x = .int i ∧ y = .int j ∧ Q (.int (i + j)) H) ∨ (∃ i j, x = .str i ∧ y = .str j ∧ i.length + j.length ≤ sizeLine ∧ Q (.str (i ++ j)) H) ∨ rCat x y H Q
theorem rm_add : RM F (rAddA F.G.K) pyAdd := by
  intro x y vx vy σ S H Q ex rx ry p
  cases x with
  | int i => cases y with
    | int j => cases rx; cases ry; exact .inl ⟨i, j, rfl, rfl, p.ok ex _ (.int _)⟩
    | _ => exact False.elim p
  | str i => cases y with
    | str j =>
      cases rx; cases ry
      obtain ⟨hl, p⟩ := Po.gate (c := i.length + j.length ≤ sizeLine) (m := M.ok (D.str (i ++ j))) p
      exact .inr (.inl ⟨i, j, rfl, rfl, hl, p.ok ex _ (.str _)⟩)
    | _ => exact False.elim p
  | lst xs => cases y with
    | lst ys =>
      cases rx with
      | @lst p1 vs _ h1 r1 => cases ry with
        | @lst p2 us _ h2 r2 =>
          obtain ⟨hl, p⟩ := Po.gate (c := xs.length + ys.length ≤ sizeLine) (m := M.ok (D.lst (xs ++ ys))) p
          refine .inr (.inr ⟨_, _, _, _, rfl, rfl, ex _ _ h1, ex _ _ h2, by rw [r1.length, r2.length]; exact hl, fun q hq => ?_⟩)
          have g := Grow.new (o := HO.lst (vs ++ us)) ex hq
          exact p _ _ g _ (.lst upd_same ((r1.mono g.s).append (r2.mono g.s)))
    | _ => exact False.elim p
  | _ => exact False.elim p
theorem em_add (ha : EM F a Γ ma) (hb : EM F b Γ mb) : EM F (.BinOp a .Add b pos) Γ (b2 pyAdd ma mb) :=
  em_op (r := rAddA F.G.K) (fun X _ => op_add.or (op_add_str.or op_cat)) rm_add ha hb
theorem rm_I {C : Int → Int → Prop} {g : Int → Int → Int} {f : D → D → M D} (h : ∀ (x y : D) (σ : L2.St) S H Q, Ex S H → Po F.G (WE F.W σ) S H (KE F Q) (f x y) → ∃ i j, x = .int i ∧ y = .int j ∧ C i j ∧ KE F Q (.int (g i j)) S H) : RM F (rI C fun i j => .int (g i j)) f := by
  intro x y vx vy σ S H Q ex rx ry p
  obtain ⟨i, j, rfl, rfl, hc, q⟩ := h x y σ S H Q ex p
  cases rx; cases ry
  exact ⟨i, j, rfl, rfl, hc, q _ (.int _)⟩
theorem em_sub (ha : EM F a Γ ma) (hb : EM F b Γ mb) : EM F (.BinOp a .Sub b pos) Γ (b2 pySub ma mb) := by
  refine em_op (r := rI0 fun i j => .int (i - j)) (fun X _ => op_sub) (fun x y vx vy σ S H Q ex rx ry p => ?_) ha hb
  cases x <;> first | exact False.elim p | (cases y <;> first | exact False.elim p | (cases rx; cases ry; exact ⟨_, _, rfl, rfl, p.ok ex _ (.int _)⟩))
theorem em_mul (ha : EM F a Γ ma) (hb : EM F b Γ mb) : EM F (.BinOp a .Mult b pos) Γ (b2 pyMul ma mb) := by
  refine em_op (r := rI CMul fun i j => .int (i * j)) (fun X _ => op_mul) (rm_I fun x y σ S H Q ex p => ?_) ha hb
  cases x <;> first | exact False.elim p | (cases y <;> first | exact False.elim p | (obtain ⟨hc, p⟩ := Po.gate (m := M.ok (D.int _)) p; exact ⟨_, _, rfl, rfl, hc, p.ok ex⟩))
theorem em_mod (ha : EM F a Γ ma) (hb : EM F b Γ mb) : EM F (.BinOp a .Mod b pos) Γ (b2 pyMod ma mb) := by
  refine em_op (r := rI (fun _ j => 0 < j) fun i j => .int (i % j)) (fun X _ => op_mod) (rm_I fun x y σ S H Q ex p => ?_) ha hb
  cases x <;> first | exact False.elim p | (cases y <;> first | exact False.elim p | (obtain ⟨hc, p⟩ := Po.gate (m := M.ok (D.int _)) p; exact ⟨_, _, rfl, rfl, hc, p.ok ex⟩))
theorem em_div (ha : EM F a Γ ma) (hb : EM F b Γ mb) : EM F (.BinOp a .FloorDiv b pos) Γ (b2 pyDiv ma mb) := by
  refine em_op (r := rI CDiv fun i j => .int (i / j)) (fun X _ => op_fdiv) (rm_I fun x y σ S H Q ex p => ?_) ha hb
  cases x <;> first | exact False.elim p | (cases y <;> first | exact False.elim p | (obtain ⟨hc, p⟩ := Po.gate (m := M.ok (D.int _)) p; exact ⟨_, _, rfl, rfl, hc, p.ok ex⟩))
theorem em_pow (ha : EM F a Γ ma) (hb : EM F b Γ mb) : EM F (.BinOp a .Pow b pos) Γ (b2 pyPow ma mb) := by
  refine em_op (r := rI CPow fun i j => .int (i ^ j.toNat)) (fun X _ => op_pow) (rm_I fun x y σ S H Q ex p => ?_) ha hb
  cases x <;> first | exact False.elim p | (cases y <;> first | exact False.elim p | (obtain ⟨hc, p⟩ := Po.gate (m := M.ok (D.int _)) p; exact ⟨_, _, rfl, rfl, hc, p.ok ex⟩))
theorem em_neg (ha : EM F a Γ ma) : EM F (.UnaryOp .USub a pos) Γ (b1 pyNeg ma) := by
  obtain ⟨ta, pa, ea⟩ := ha
  refine ⟨tUn (rU fun i => .int (-i)) ta, fun X hX => pe_un un_neg (pa X hX), fun H0 σ S H Q hh p => ?_⟩
  refine ea H0 σ S H _ hh (Po.bind p |>.imp fun x S1 H1 g1 q1 vx rx => ?_)
  cases rx <;> first | exact False.elim q1 | exact ⟨_, rfl, q1.ok g1.sub _ (.int _)⟩

/-! ### comparisons -/
def pyLt : D → D → M D
  | .int a, .int b => .ok (.bl (decide (a < b)))
  | .str a, .str b => .ok (.bl (decide (a.cps.toList < b.cps.toList)))
  | _, _ => .stk
def pyLe : D → D → M D
  | .int a, .int b => .ok (.bl (decide (a ≤ b)))
  | _, _ => .stk
def pyGt : D → D → M D
  | .int a, .int b => .ok (.bl (decide (b < a)))
  | _, _ => .stk
def pyGe : D → D → M D
  | .int a, .int b => .ok (.bl (decide (b ≤ a)))
  | _, _ => .stk
def rLtA : R2 := fun x y H Q => (∃ i j, x = .int i ∧ y = .int j ∧ Q (.bl (decide (i < j))) H) ∨ (∃ i j, x = .str i ∧ y = .str j ∧ Q (.bl (decide (i.cps.toList < j.cps.toList))) H)
theorem rm_lt : RM F rLtA pyLt := by
  intro x y vx vy σ S H Q ex rx ry p
  cases x <;> first
    | exact False.elim p
    | (cases y <;> first | exact False.elim p | (cases rx; cases ry; first | exact .inl ⟨_, _, rfl, rfl, p.ok ex _ (.bl _)⟩ | exact .inr ⟨_, _, rfl, rfl, p.ok ex _ (.bl _)⟩))
theorem op_ltA {X : Cx} : OpR X (compareOp .Lt) rLtA := op_lt.or op_lt_str
theorem rm_B {g : Int → Int → Bool} {f : D → D → M D} (h : ∀ (x y : D) (σ : L2.St) S H Q, Ex S H → Po F.G (WE F.W σ) S H (KE F Q) (f x y) → ∃ i j, x = .int i ∧ y = .int j ∧ KE F Q (.bl (g i j)) S H) : RM F (rI0 fun i j => .bl (g i j)) f := by
  intro x y vx vy σ S H Q ex rx ry p
  obtain ⟨i, j, rfl, rfl, q⟩ := h x y σ S H Q ex p
  cases rx; cases ry
  exact ⟨i, j, rfl, rfl, q _ (.bl _)⟩
theorem rm_le : RM F (rI0 fun i j => .bl (decide (i ≤ j))) pyLe := rm_B fun x y σ S H Q ex p => by
  cases x <;> first | exact False.elim p | (cases y <;> first | exact False.elim p | exact ⟨_, _, rfl, rfl, p.ok ex⟩)
theorem rm_gt : RM F (rI0 fun i j => .bl (decide (j < i))) pyGt := rm_B fun x y σ S H Q ex p => by
  cases x <;> first | exact False.elim p | (cases y <;> first | exact False.elim p | exact ⟨_, _, rfl, rfl, p.ok ex⟩)
theorem rm_ge : RM F (rI0 fun i j => .bl (decide (j ≤ i))) pyGe := rm_B fun x y σ S H Q ex p => by
  cases x <;> first | exact False.elim p | (cases y <;> first | exact False.elim p | exact ⟨_, _, rfl, rfl, p.ok ex⟩)

/-! ### == -/
mutual
def toPy : D → Option PyData
  | .non => some .none
  | .bl b => some (.bool b)
  | .int i => some (.int i)
  | .str x => some (.str x)
  | .tup xs => (toPys xs).map .tuple
  | .lst xs => (toPys xs).map .list
  | _ => none
def toPys : List D → Option (List PyData)
  | [] => some []
  | d :: ds => match toPy d, toPys ds with
    | some p, some ps => some (p :: ps)
    | _, _ => none
end
def scalD : D → D → Bool
  | .non, .non => true | .non, .int _ => true | .int _, .non => true | .non, .bl _ => true | .bl _, .non => true | .non, .str _ => true | .str _, .non => true
  | .int _, .int _ => true | .bl _, .bl _ => true | .str _, .str _ => true
  | .int _, .str _ => true | .str _, .int _ => true | .bl _, .str _ => true | .str _, .bl _ => true
  | _, _ => false
def eqS : D → D → Bool
  | .non, .non => true
  | .int a, .int b => decide (a = b)
  | .bl a, .bl b => decide (a = b)
  | .str a, .str b => decide (a = b)
  | _, _ => false
def eqD (x y : D) : M Bool := if scalD x y then .ok (eqS x y) else match toPy x, toPy y with
  | some p, some q => if SeqAt.shaped p = true ∧ SeqAt.shaped q = true then .ok (PyData.eqv p q) else .stk
  | _, _ => .stk
def pyEq (x y : D) : M D := b1 (fun b => .ok (.bl b)) (eqD x y)
def pyNe (x y : D) : M D := b1 (fun b => .ok (.bl (!b))) (eqD x y)
mutual
theorem rep_dp {G : GG} {S : Hp} : ∀ {d : D} {v : V} {p : PyData}, Rep G S v d → toPy d = some p → Dp G.K S v p
  | .non, _, _, .non, e => by cases e; exact .non
  | .bl b, _, _, .bl _, e => by cases e; exact .bl _
  | .int b, _, _, .int _, e => by cases e; exact .int _
  | .str b, _, _, .str _, e => by cases e; exact .str _
  | .tup xs, _, p, .tup h r, e => by
    unfold toPy at e
    cases q : toPys xs with
    | none => rw [q] at e; cases e
    | some ps => rw [q] at e; cases e; exact .tup (SqT.of h) (reps_dp r q)
  | .lst xs, _, p, .lst h r, e => by
    unfold toPy at e
    cases q : toPys xs with
    | none => rw [q] at e; cases e
    | some ps => rw [q] at e; cases e; exact .lst (SqL.of h) (reps_dp r q)
theorem reps_dp {G : GG} {S : Hp} : ∀ {ds : List D} {vs : List V} {ps : List PyData}, Reps G S vs ds → toPys ds = some ps → DpAll G.K S vs ps
  | [], _, _, .nil, e => by cases e; exact .nil
  | d :: ds, _, _, .cons h r, e => by
    unfold toPys at e
    cases q : toPy d with
    | none => rw [q] at e; cases e
    | some p => cases q2 : toPys ds with
      | none => rw [q, q2] at e; cases e
      | some ps => rw [q, q2] at e; cases e; exact .cons (rep_dp h q) (reps_dp r q2)
end
def rEqA (K : PySem.W.Frag) : R2 := fun x y H Q => rEq x y H Q ∨ rEqD K x y H Q
def rNeA (K : PySem.W.Frag) : R2 := fun x y H Q => rNe x y H Q ∨ rNeD K x y H Q
theorem scal_of {G : GG} {S : Hp} {x y : D} {vx vy : V} (rx : Rep G S vx x) (ry : Rep G S vy y) (h : scalD x y = true) : scal vx vy = true ∧ decide (vx = vy) = eqS x y := by
  cases rx <;> cases ry <;> first | (exact absurd h Bool.false_ne_true) | exact ⟨rfl, by simp [eqS]⟩
theorem rm_eq : RM F (rEqA F.G.K) pyEq := by
  intro x y vx vy σ S H Q ex rx ry p
  unfold pyEq eqD at p
  split at p
  · rename_i h
    obtain ⟨h1, h2⟩ := scal_of rx ry h
    refine .inl ⟨h1, ?_⟩
    rw [h2]
    exact (show Po F.G (WE F.W σ) S H (KE F Q) (.ok (.bl (eqS x y))) from p).ok ex _ (.bl _)
  · split at p
    · rename_i q1 q2
      split at p
      · rename_i hs
        exact .inr ⟨_, _, rep_dp (rx.mono ex) q1, rep_dp (ry.mono ex) q2, hs.1, hs.2, (show Po F.G (WE F.W σ) S H (KE F Q) (.ok (.bl _)) from p).ok ex _ (.bl _)⟩
      · exact False.elim p
    · exact False.elim p
theorem rm_ne : RM F (rNeA F.G.K) pyNe := by
  intro x y vx vy σ S H Q ex rx ry p
  unfold pyNe eqD at p
  split at p
  · rename_i h
    obtain ⟨h1, h2⟩ := scal_of rx ry h
    refine .inl ⟨h1, ?_⟩
    rw [h2]
    exact (show Po F.G (WE F.W σ) S H (KE F Q) (.ok (.bl (!eqS x y))) from p).ok ex _ (.bl _)
  · split at p
    · rename_i q1 q2
      split at p
      · rename_i hs
        exact .inr ⟨_, _, rep_dp (rx.mono ex) q1, rep_dp (ry.mono ex) q2, hs.1, hs.2, (show Po F.G (WE F.W σ) S H (KE F Q) (.ok (.bl _)) from p).ok ex _ (.bl _)⟩
      · exact False.elim p
    · exact False.elim p
end
end Mir
namespace Mir
open PySem PySem.Spec L2

theorem PE_or {X : Cx} {e : Expr} {t u : TE} (h : PE X e t) (k : PE X e u) : PE X e (fun σ H Q => t σ H Q ∨ u σ H Q) :=
  ⟨fun pins s σ H Q I q => q.elim (h.run pins s σ H Q I) (k.run pins s σ H Q I)⟩

/-! ### tests -/
def pyTruth : D → M Bool
  | .non => .ok false
  | .bl b => .ok b
  | .int i => .ok (i != 0)
  | .str y => if y.length ≤ sizeLine then .ok ((y.length : Int) != 0) else .stk
  | .tup xs => .ok (!xs.isEmpty)
  | .lst xs => .ok (!xs.isEmpty)
  | _ => .stk
theorem reps_empty {G : GG} {S : Hp} {vs : List V} {ds : List D} (r : Reps G S vs ds) : vs.isEmpty = ds.isEmpty := by cases r <;> rfl
theorem truV {G : GG} {E : XK} {S H : Hp} {v : V} {d : D} {Q : Bool → Hp → Prop} (ex : Ex S H) (r : Rep G S v d) (p : Po G E S H (KT Q) (pyTruth d)) : ∃ k, TruV G.K v H k ∧ Q k H := by
  cases r with
  | non => exact ⟨_, rfl, p.ok ex⟩
  | bl b => exact ⟨_, rfl, p.ok ex⟩
  | int i => exact ⟨_, rfl, p.ok ex⟩
  | str y =>
    obtain ⟨hc, p⟩ := Po.gate (m := M.ok ((y.length : Int) != 0)) p
    exact ⟨_, ⟨hc, rfl⟩, p.ok ex⟩
  | tup h r => exact ⟨_, .inr (.inl ⟨_, SqT.of (ex _ _ h), rfl⟩), by rw [reps_empty r]; exact p.ok ex⟩
  | lst h r => exact ⟨_, .inl ⟨_, SqL.of (ex _ _ h), rfl⟩, by rw [reps_empty r]; exact p.ok ex⟩
  | _ => exact False.elim p

section
variable {F : Fm} {Γ : Gam} {a b c e : Expr} {es rest : List Expr} {ma mb mc m : M D} {mt mu : M Bool} {ms : List (M D)} {pos : Pos}
theorem em_or {e : Expr} {m : M D} {t u : TE} (h : ∀ X, F.Xs X → PE X e t) (k : ∀ X, F.Xs X → PE X e u) (hv : EvM F (fun σ H Q => t σ H Q ∨ u σ H Q) Γ m) : EM F e Γ m :=
  ⟨_, fun X hX => PE_or (h X hX) (k X hX), hv⟩
theorem tm_val (he : EM F e Γ m) (hp : ∀ X, F.Xs X → ∀ whole, isTrue e X.env whole = (do let v ← whole; standAt e.pos; holding [v] (truthy v))) : TM F e Γ (b1 pyTruth m) := by
  obtain ⟨t, pt, et⟩ := he
  refine ⟨fun σ H Q => t σ H fun x H' => ∃ k, TruV F.G.K x H' k ∧ Q k H', fun X hX => ?_, fun H0 σ S H Q hh p => ?_⟩
  · have h := pt_truth (pt X hX) (hp X hX)
    rw [F.hK X hX] at h
    exact h
  · exact et H0 σ S H _ hh (Po.bind p |>.imp fun d S' H' g q v r => truV g.sub r q)
def andM (a b : M Bool) : M Bool := a.bind fun c => if c = true then b else .ok false
def orM (a b : M Bool) : M Bool := a.bind fun c => if c = true then .ok true else b
def notM (a : M Bool) : M Bool := a.bind fun c => .ok (!c)
theorem wm_and1 (ha : TM F a Γ mt) : WM F (.BoolOp .And [a] pos) Γ mt := by
  obtain ⟨t, p, e⟩ := ha
  exact ⟨t, fun X hX => pw_and1 (p X hX), e⟩
theorem wm_or1 (ha : TM F a Γ mt) : WM F (.BoolOp .Or [a] pos) Γ mt := by
  obtain ⟨t, p, e⟩ := ha
  exact ⟨t, fun X hX => pw_or1 (p X hX), e⟩
theorem wm_and (ha : TM F a Γ mt) (hb : WM F (.BoolOp .And (b :: rest) pos) Γ mu) : WM F (.BoolOp .And (a :: b :: rest) pos) Γ (andM mt mu) := by
  obtain ⟨t, p, e⟩ := ha
  obtain ⟨u, q, f⟩ := hb
  refine ⟨tAnd t u, fun X hX => pw_and (p X hX) (q X hX), fun H0 σ S H Q hh po => ?_⟩
  refine e H0 σ S H _ hh (Po.bind po |>.imp fun c S' H' g k => ?_)
  cases c with
  | true => exact iteT (f H0 σ S' H' Q (hh.grow g) k)
  | false => exact iteF (Po.ok (a := false) g.sub k)
theorem wm_or (ha : TM F a Γ mt) (hb : WM F (.BoolOp .Or (b :: rest) pos) Γ mu) : WM F (.BoolOp .Or (a :: b :: rest) pos) Γ (orM mt mu) := by
  obtain ⟨t, p, e⟩ := ha
  obtain ⟨u, q, f⟩ := hb
  refine ⟨tOr t u, fun X hX => pw_or (p X hX) (q X hX), fun H0 σ S H Q hh po => ?_⟩
  refine e H0 σ S H _ hh (Po.bind po |>.imp fun c S' H' g k => ?_)
  cases c with
  | true => exact iteT (Po.ok (a := true) g.sub k)
  | false => exact iteF (f H0 σ S' H' Q (hh.grow g) k)
theorem tm_w (h : WM F e Γ mt) : TM F e Γ mt := by
  obtain ⟨t, p, e⟩ := h
  exact ⟨t, fun X hX => (p X hX).pt, e⟩
theorem tm_not (ha : TM F a Γ mt) : TM F (.UnaryOp .Not a pos) Γ (notM mt) := by
  obtain ⟨t, p, e⟩ := ha
  refine ⟨tNot t, fun X hX => pt_not (p X hX), fun H0 σ S H Q hh po => ?_⟩
  exact e H0 σ S H _ hh (Po.bind po |>.imp fun c S' H' g k => Po.ok (a := !c) g.sub k)
/-- as values (bools) -/
def andV (a b : M D) : M D := a.bind fun d => (isB d).bind fun c => if c = true then b else .ok (.bl false)
def orV (a b : M D) : M D := a.bind fun d => (isB d).bind fun c => if c = true then .ok (.bl true) else b
def notV (a : M D) : M D := a.bind fun d => (isB d).bind fun c => .ok (.bl !c)
theorem isB_of {G : GG} {E : XK} {S H : Hp} {v : V} {d : D} {α : Type} {K : α → Hp → Hp → Prop} {k : Bool → M α} (ex : Ex S H) (r : Rep G S v d) (p : Po G E S H K ((isB d).bind k)) : ∃ c, v = .bl c ∧ Po G E S H K (k c) := by
  cases r with
  | bl b => exact ⟨b, rfl, p⟩
  | _ => exact False.elim p
theorem em_one {op} (ha : EM F a Γ m) : EM F (.BoolOp op [a] pos) Γ m := by
  obtain ⟨t, p, e⟩ := ha
  exact ⟨t, fun X hX => pe_one (p X hX), e⟩
theorem em_and (ha : EM F a Γ ma) (hb : EM F (.BoolOp .And (b :: rest) pos) Γ mb) : EM F (.BoolOp .And (a :: b :: rest) pos) Γ (andV ma mb) := by
  obtain ⟨t, p, e⟩ := ha
  obtain ⟨u, q, f⟩ := hb
  refine ⟨tAndV t u, fun X hX => pe_and (p X hX) (q X hX), fun H0 σ S H Q hh po => ?_⟩
  refine e H0 σ S H _ hh (Po.bind po |>.imp fun d S' H' g k v r => ?_)
  obtain ⟨c, rfl, k⟩ := isB_of g.sub r k
  refine ⟨c, rfl, ?_⟩
  cases c with
  | true => exact iteT (f H0 σ S' H' Q (hh.grow g) k)
  | false => exact iteF (Po.ok (a := D.bl false) g.sub k _ (.bl _))
theorem em_orv (ha : EM F a Γ ma) (hb : EM F (.BoolOp .Or (b :: rest) pos) Γ mb) : EM F (.BoolOp .Or (a :: b :: rest) pos) Γ (orV ma mb) := by
  obtain ⟨t, p, e⟩ := ha
  obtain ⟨u, q, f⟩ := hb
  refine ⟨tOrV t u, fun X hX => L2.pe_or (p X hX) (q X hX), fun H0 σ S H Q hh po => ?_⟩
  refine e H0 σ S H _ hh (Po.bind po |>.imp fun d S' H' g k v r => ?_)
  obtain ⟨c, rfl, k⟩ := isB_of g.sub r k
  refine ⟨c, rfl, ?_⟩
  cases c with
  | true => exact iteT (Po.ok (a := D.bl true) g.sub k _ (.bl _))
  | false => exact iteF (f H0 σ S' H' Q (hh.grow g) k)
theorem em_not (ha : EM F a Γ ma) : EM F (.UnaryOp .Not a pos) Γ (notV ma) := by
  obtain ⟨t, p, e⟩ := ha
  refine ⟨tNotV t, fun X hX => pe_not (p X hX), fun H0 σ S H Q hh po => ?_⟩
  refine e H0 σ S H _ hh (Po.bind po |>.imp fun d S' H' g k v r => ?_)
  obtain ⟨c, rfl, k⟩ := isB_of g.sub r k
  exact ⟨c, rfl, Po.ok (a := D.bl !c) g.sub k _ (.bl _)⟩
def ifM {α : Type} (c : M Bool) (a b : M α) : M α := c.bind fun c => if c = true then a else b
theorem em_if (hc : TM F c Γ mt) (ha : EM F a Γ ma) (hb : EM F b Γ mb) : EM F (.IfExp c a b pos) Γ (ifM mt ma mb) := by
  obtain ⟨t, p, e⟩ := hc
  obtain ⟨u, q, f⟩ := ha
  obtain ⟨w, r, g⟩ := hb
  refine ⟨tIf t u w, fun X hX => pe_ifExp (p X hX) (q X hX) (r X hX), fun H0 σ S H Q hh po => ?_⟩
  refine e H0 σ S H _ hh (Po.bind po |>.imp fun c S' H' gr k => ?_)
  cases c with
  | true => exact iteT (f H0 σ S' H' Q (hh.grow gr) k)
  | false => exact iteF (g H0 σ S' H' Q (hh.grow gr) k)

/-! ### chains of two -/
def chM (f g : D → D → M D) (a b c : M D) : M D := a.bind fun x => b.bind fun y => (f x y).bind fun z => (isB z).bind fun k => if k = true then c.bind fun w => g y w else .ok (.bl false)
theorem ev_chain {r r' : R2} {f g : D → D → M D} {ta tb tc : TE} (hf : RM F r f) (hg : RM F r' g) (ea : EvM F ta Γ ma) (eb : EvM F tb Γ mb) (ec : EvM F tc Γ mc) : EvM F (tChain r r' ta tb tc) Γ (chM f g ma mb mc) := by
  intro H0 σ S H Q hh p
  refine ea H0 σ S H _ hh (Po.bind p |>.imp fun x S1 H1 g1 q1 vx rx => ?_)
  refine eb H0 σ S1 H1 _ (hh.grow g1) (Po.bind q1 |>.imp fun y S2 H2 g2 q2 vy ry => ?_)
  refine hf x y vx vy σ S2 H2 _ g2.sub (rx.mono g2.s) ry (Po.bind q2 |>.imp fun z S3 H3 g3 q3 vz rz => ?_)
  obtain ⟨k, rfl, q3⟩ := isB_of g3.sub rz q3
  refine ⟨k, rfl, ?_⟩
  cases k with
  | true =>
    have q3 : Po F.G (WE F.W σ) S3 H3 (KE F Q) (mc.bind fun w => g y w) := q3
    exact iteT (ec H0 σ S3 H3 _ (hh.grow (g1.trans (g2.trans g3))) (Po.bind q3 |>.imp fun w S4 H4 g4 q4 vw rw' => hg y w vy vw σ S4 H4 Q g4.sub ((ry.mono g3.s).mono g4.s) rw' q4))
  | false => exact iteF (Po.ok (a := D.bl false) g3.sub q3 _ (.bl _))
theorem em_chain {op op' : CmpOp} {r r' : R2} {f g : D → D → M D} (ho : ∀ X, F.Xs X → OpR X (compareOp op) r) (hf : RM F r f) (ho' : ∀ X, F.Xs X → OpR X (compareOp op') r') (hg : RM F r' g) (ha : EM F a Γ ma) (hb : EM F b Γ mb) (hc : EM F c Γ mc)
    (hm : lastMarks [op, op'] [b, c] = false := by with_unfolding_all rfl) : EM F (.Compare a [op, op'] [b, c] pos) Γ (chM f g ma mb mc) := by
  obtain ⟨ta, pa, ea⟩ := ha
  obtain ⟨tb, pb, eb⟩ := hb
  obtain ⟨tc, pc, ec⟩ := hc
  exact ⟨tChain r r' ta tb tc, fun X hX => pe_chain (ho X hX) (ho' X hX) (pa X hX) (pb X hX) (pc X hX) hm, ev_chain hf hg ea eb ec⟩
theorem tm_chain {op op' : CmpOp} {r r' : R2} {f g : D → D → M D} (ho : ∀ X, F.Xs X → OpR X (compareOp op) r) (hf : RM F r f) (ho' : ∀ X, F.Xs X → OpR X (compareOp op') r') (hg : RM F r' g) (ha : EM F a Γ ma) (hb : EM F b Γ mb) (hc : EM F c Γ mc)
    (hm : lastMarks [op, op'] [b, c] = false := by with_unfolding_all rfl) : TM F (.Compare a [op, op'] [b, c] pos) Γ (b1 isB (chM f g ma mb mc)) := by
  obtain ⟨ta, pa, ea⟩ := ha
  obtain ⟨tb, pb, eb⟩ := hb
  obtain ⟨tc, pc, ec⟩ := hc
  refine ⟨tTest (tChain r r' ta tb tc), fun X hX => pt_chain (ho X hX) (ho' X hX) (pa X hX) (pb X hX) (pc X hX) hm, fun H0 σ S H Q hh p => ?_⟩
  refine ev_chain hf hg ea eb ec H0 σ S H _ hh (Po.bind p |>.imp fun d S' H' g q v r => ?_)
  cases r with
  | bl k => exact ⟨k, rfl, Po.ok g.sub q⟩
  | _ => exact False.elim q

/-! ### argument lists, displays -/
def mlist {α : Type} : List (M α) → M (List α)
  | [] => .ok []
  | m :: ms => m.bind fun d => (mlist ms).bind fun ds => .ok (d :: ds)
theorem am_nil : AM F [] Γ (mlist []) := ⟨_, fun X _ => pa_nil, fun H0 σ S H Q hh p => Po.ok hh.ex p [] .nil⟩
theorem am_cons (ha : EM F e Γ m) (hr : AM F es Γ (mlist ms)) (hs : ∀ X, F.Xs X → starEach (e :: es) X.env = (false, eval e X.env) :: starEach es X.env := by intros; rfl) : AM F (e :: es) Γ (mlist (m :: ms)) := by
  obtain ⟨t, p, f⟩ := ha
  obtain ⟨u, q, g⟩ := hr
  refine ⟨tCons t u, fun X hX => pa_cons (p X hX) (q X hX) (hs X hX), fun H0 σ S H Q hh po => ?_⟩
  refine f H0 σ S H _ hh (Po.bind po |>.imp fun d S1 H1 g1 k v r => ?_)
  refine g H0 σ S1 H1 _ (hh.grow g1) (Po.bind k |>.imp fun ds S2 H2 g2 k2 vs rs => ?_)
  exact Po.ok g2.sub k2 (v :: vs) (.cons (r.mono g2.s) rs)
def mkTup (ds : List D) : M D := if ds.length ≤ sizeLine then .ok (.tup ds) else .stk
def mkLst (ds : List D) : M D := if ds.length ≤ sizeLine then .ok (.lst ds) else .stk
theorem ev_newT {G : GG} {E : XK} {S H : Hp} {F : Fm} {Q : VK} {vs : List V} {ds : List D} (ex : Ex S H) (r : Reps F.G S vs ds) (p : Po F.G E S H (KE F Q) (.ok (.tup ds))) : ∀ q, H q = none → Q (.ref q) (upd H q (.tup vs)) := fun q hq => by
  have g := Grow.new (o := HO.tup vs) ex hq
  exact p _ _ g _ (.tup upd_same (r.mono g.s))
theorem ev_newL {G : GG} {E : XK} {S H : Hp} {F : Fm} {Q : VK} {vs : List V} {ds : List D} (ex : Ex S H) (r : Reps F.G S vs ds) (p : Po F.G E S H (KE F Q) (.ok (.lst ds))) : ∀ q, H q = none → Q (.ref q) (upd H q (.lst vs)) := fun q hq => by
  have g := Grow.new (o := HO.lst vs) ex hq
  exact p _ _ g _ (.lst upd_same (r.mono g.s))
theorem em_tup {x1} {ml : M (List D)} (h : AM F es Γ ml) : EM F (.Tuple es x1 pos) Γ (b1 mkTup ml) := by
  obtain ⟨t, p, f⟩ := h
  refine ⟨tTup t, fun X hX => pe_tup (p X hX), fun H0 σ S H Q hh po => ?_⟩
  refine f H0 σ S H _ hh (Po.bind po |>.imp fun ds S1 H1 g1 k vs r => ?_)
  obtain ⟨hl, k⟩ := Po.gate (m := M.ok (D.tup ds)) k
  exact ⟨by rw [r.length]; exact hl, ev_newT (G := F.G) g1.sub r k⟩
theorem em_lst {ml : M (List D)} (h : AM F es Γ ml) : EM F (.List es pos) Γ (b1 mkLst ml) := by
  obtain ⟨t, p, f⟩ := h
  refine ⟨tLst t, fun X hX => pe_lst (p X hX), fun H0 σ S H Q hh po => ?_⟩
  refine f H0 σ S H _ hh (Po.bind po |>.imp fun ds S1 H1 g1 k vs r => ?_)
  obtain ⟨hl, k⟩ := Po.gate (m := M.ok (D.lst ds)) k
  exact ⟨by rw [r.length]; exact hl, ev_newL (G := F.G) g1.sub r k⟩

/-! ### calls of what is known -/
def spM (G : GG) (m : List D → M D) : Sp := fun vs H Q E => ∃ S ds, Ex S H ∧ Reps G S vs ds ∧ Po G E S H (fun d S' H' => ∀ v, Rep G S' v d → Q v H') (m ds)

/-- the name x stands for a def that computes m -/
def Kn (G : GG) (k : Nat) (x : Str) (m : List D → M D) : Prop := ∃ f fd ps j, j ≤ k ∧ FnOk G.P G.w G.K G.mg G.base (L2.CX G.P G.w) j f fd ps (spM G m) ∧ G.mg x = some (.ref f) ∧ PySem.W.keepIn G.K (.ref f) = true ∧ Binds G.K fd ps []
theorem Kn.mono {G : GG} {j k : Nat} {x : Str} {m : List D → M D} (h : Kn G j x m) (l : j ≤ k) : Kn G k x m := by
  obtain ⟨f, fd, ps, i, hi, r⟩ := h
  exact ⟨f, fd, ps, i, Nat.le_trans hi l, r⟩
theorem em_call {x : Str} {p : Pos} {m : List D → M D} {ml : M (List D)} (kn : Kn F.G F.k x m) (hcm : F.cm = true) (hg : F.kd.lookup x = some .globalImplicit) (ha : AM F (e :: es) Γ ml) (hdb : (x == ("__debug__" : Str)) = false := by decide)
    (he : ∀ X, F.Xs X → starEach (e :: es) X.env = (false, eval e X.env) :: starEach es X.env := by intros; rfl) (hpl : ∀ X, F.Xs X → (backTo pos (starEach es X.env)).any (·.1) = false := by intros; rfl) : EM F (.Call (.Name x p) (e :: es) [] pos) Γ (b1 m ml) := by
  obtain ⟨t, q, g⟩ := ha
  refine ⟨tCallS (spM F.G m) (WE F.W) t, fun X hX => ?_, fun H0 σ S H Q hh po => ?_⟩
  · obtain ⟨f, fd, ps, j, hj, ok, hm, hk, hb⟩ := kn
    obtain ⟨h1, h2, h3, h4, h5, _⟩ := F.hX X hX
    rw [← h1, ← h2, ← h3, ← h4, ← h5] at ok
    rw [← h4] at hm
    rw [← h3] at hk hb
    exact pe_callS ok ((F.hr hcm X hX).mono hj) (F.gl X hX hg) hm hk hb (fun σ => passAt (F.tk X hX) σ) (q X hX) hdb (he X hX) (hpl X hX)
  · exact g H0 σ S H _ hh (Po.bind po |>.imp fun ds S1 H1 g1 k vs r => ⟨S1, ds, g1.sub, r, k⟩)
/-- a built-in called with values -/
def CM (F : Fm) (r : List V → Hp → VK → Prop) (f : List D → M D) : Prop := ∀ (ds : List D) (vs : List V) (E : XK) S H Q, Ex S H → Reps F.G S vs ds → Po F.G E S H (KE F Q) (f ds) → r vs H Q
theorem em_callB {x : Str} {p : Pos} {id : String} {r : List V → Hp → VK → Prop} {f : List D → M D} {ml : M (List D)} (hc : ∀ X, F.Xs X → CallR X (.builtin id) r) (hf : CM F r f) (hg : F.kd.lookup x = some .globalImplicit) (hm : F.G.mg x = none) (hv : bootBuiltins x = some (.builtin id)) (ha : AM F (e :: es) Γ ml)
    (hn : x ≠ "__name__" := by decide) (hdb : (x == ("__debug__" : Str)) = false := by decide)
    (he : ∀ X, F.Xs X → starEach (e :: es) X.env = (false, eval e X.env) :: starEach es X.env := by intros; rfl) (hpl : ∀ X, F.Xs X → (backTo pos (starEach es X.env)).any (·.1) = false := by intros; rfl) : EM F (.Call (.Name x p) (e :: es) [] pos) Γ (b1 f ml) := by
  obtain ⟨t, q, g⟩ := ha
  exact ⟨tCB r t, fun X hX => pe_callB (hc X hX) (F.gl X hX hg) (by rw [(F.hX X hX).2.2.2.1]; exact hm) hv (q X hX) hn hdb (he X hX) (hpl X hX), fun H0 σ S H Q hh po => g H0 σ S H _ hh (Po.bind po |>.imp fun ds S1 H1 g1 k vs r => hf ds vs _ S1 H1 Q g1.sub r k)⟩
theorem em_callTy {x : Str} {p : Pos} {T : String} {r : List V → Hp → VK → Prop} {f : List D → M D} {ml : M (List D)} (hc : ∀ X, F.Xs X → CallR X (.type T) r) (hf : CM F r f) (hg : F.kd.lookup x = some .globalImplicit) (hm : F.G.mg x = none) (hv : bootBuiltins x = some (.type T)) (ha : AM F (e :: es) Γ ml)
    (hn : x ≠ "__name__" := by decide) (hdb : (x == ("__debug__" : Str)) = false := by decide)
    (he : ∀ X, F.Xs X → starEach (e :: es) X.env = (false, eval e X.env) :: starEach es X.env := by intros; rfl) (hpl : ∀ X, F.Xs X → (backTo pos (starEach es X.env)).any (·.1) = false := by intros; rfl) : EM F (.Call (.Name x p) (e :: es) [] pos) Γ (b1 f ml) := by
  obtain ⟨t, q, g⟩ := ha
  exact ⟨tCB r t, fun X hX => pe_callTy (hc X hX) (F.gl X hX hg) (by rw [(F.hX X hX).2.2.2.1]; exact hm) hv (q X hX) hn hdb (he X hX) (hpl X hX), fun H0 σ S H Q hh po => g H0 σ S H _ hh (Po.bind po |>.imp fun ds S1 H1 g1 k vs r => hf ds vs _ S1 H1 Q g1.sub r k)⟩

/-! ### built-ins -/
def pyLen : List D → M D
  | [.str y] => if y.length ≤ sizeLine then .ok (.int y.length) else .stk
  | [.lst xs] => .ok (.int xs.length)
  | [.tup xs] => .ok (.int xs.length)
  | [.scr xs] => .ok (.int xs.length)
  | _ => .stk
theorem reps1 {G : GG} {S : Hp} {vs : List V} {d : D} (r : Reps G S vs [d]) : ∃ v, vs = [v] ∧ Rep G S v d := by
  cases r with
  | cons h r => cases r; exact ⟨_, rfl, h⟩
theorem reps2 {G : GG} {S : Hp} {vs : List V} {d e : D} (r : Reps G S vs [d, e]) : ∃ v w, vs = [v, w] ∧ Rep G S v d ∧ Rep G S w e := by
  cases r with
  | cons h r => cases r with
    | cons k r => cases r; exact ⟨_, _, rfl, h, k⟩
theorem cm_len : CM F (fun xs H Q => ∃ x n, xs = [x] ∧ LenV F.G.K x H n ∧ Q (.int n) H) pyLen := by
  intro ds vs E S H Q ex r p
  match ds, r, p with
  | [.str y], r, p =>
    obtain ⟨v, rfl, h⟩ := reps1 r
    obtain ⟨hl, p⟩ := Po.gate (m := M.ok (D.int y.length)) p
    cases h
    exact ⟨_, _, rfl, ⟨hl, rfl⟩, p.ok ex _ (.int _)⟩
  | [.lst xs], r, p =>
    obtain ⟨v, rfl, h⟩ := reps1 r
    cases h with
    | lst h r => exact ⟨_, _, rfl, .inl ⟨_, SqL.of (ex _ _ h), rfl⟩, by rw [r.length]; exact p.ok ex _ (.int _)⟩
  | [.tup xs], r, p =>
    obtain ⟨v, rfl, h⟩ := reps1 r
    cases h with
    | tup h r => exact ⟨_, _, rfl, .inr ⟨_, SqT.of (ex _ _ h), rfl⟩, by rw [r.length]; exact p.ok ex _ (.int _)⟩
  | [.scr xs], r, p =>
    obtain ⟨v, rfl, h⟩ := reps1 r
    cases h with
    | scr h => exact ⟨_, _, rfl, .inl ⟨_, ex_l ex h, rfl⟩, by rw [List.length_map]; exact p.ok ex _ (.int _)⟩
theorem em_len {p : Pos} {ml : M (List D)} (hg : F.kd.lookup ("len" : Str) = some NameKind.globalImplicit) (hm : F.G.mg "len" = none) (ha : AM F (e :: es) Γ ml)
    (he : ∀ X, F.Xs X → starEach (e :: es) X.env = (false, eval e X.env) :: starEach es X.env := by intros; rfl) (hpl : ∀ X, F.Xs X → (backTo pos (starEach es X.env)).any (·.1) = false := by intros; rfl) : EM F (.Call (.Name "len" p) (e :: es) [] pos) Γ (b1 pyLen ml) :=
  em_callB (r := fun xs H Q => ∃ x n, xs = [x] ∧ LenV F.G.K x H n ∧ Q (.int n) H) (fun X hX => by have h := call_len (X := X); rw [F.hK X hX] at h; exact h) cm_len hg hm PySem.boot_len ha (by decide) (by decide) he hpl
def pyInt : List D → M D
  | [.int i] => .ok (.int i)
  | [.bl b] => .ok (.int (if b then 1 else 0))
  | _ => .stk
theorem cm_int : CM F (fun xs H Q => (∃ i, xs = [.int i] ∧ Q (.int i) H) ∨ ∃ k, xs = [.bl k] ∧ Q (.int (if k then 1 else 0)) H) pyInt := by
  intro ds vs E S H Q ex r p
  match ds, r, p with
  | [.int y], r, p =>
    obtain ⟨v, rfl, h⟩ := reps1 r
    cases h
    exact .inl ⟨_, rfl, p.ok ex _ (.int _)⟩
  | [.bl y], r, p =>
    obtain ⟨v, rfl, h⟩ := reps1 r
    cases h
    exact .inr ⟨_, rfl, p.ok ex _ (.int _)⟩
theorem em_int_of {p : Pos} {ml : M (List D)} (hg : F.kd.lookup ("int" : Str) = some NameKind.globalImplicit) (hm : F.G.mg "int" = none) (ha : AM F (e :: es) Γ ml)
    (he : ∀ X, F.Xs X → starEach (e :: es) X.env = (false, eval e X.env) :: starEach es X.env := by intros; rfl) (hpl : ∀ X, F.Xs X → (backTo pos (starEach es X.env)).any (·.1) = false := by intros; rfl) : EM F (.Call (.Name "int" p) (e :: es) [] pos) Γ (b1 pyInt ml) :=
  em_callTy (r := fun xs H Q => (∃ i, xs = [.int i] ∧ Q (.int i) H) ∨ ∃ k, xs = [.bl k] ∧ Q (.int (if k then 1 else 0)) H) (fun X hX => call_int1) cm_int hg hm (by decide +kernel) ha (by decide) (by decide) he hpl
def pyList : List D → M D
  | [.lst xs] => .ok (.lst xs)
  | [.tup xs] => .ok (.lst xs)
  | _ => .stk
theorem cm_list : CM F (fun xs H Q => ∃ p ys, xs = [.ref p] ∧ (SqL F.G.K H p ys ∨ SqT F.G.K H p ys) ∧ ∀ l, H l = none → Q (.ref l) (upd H l (.lst ys))) pyList := by
  intro ds vs E S H Q ex r p
  match ds, r, p with
  | [.lst xs], r, p =>
    obtain ⟨v, rfl, h⟩ := reps1 r
    cases h with
    | lst h r => exact ⟨_, _, rfl, .inl (SqL.of (ex _ _ h)), ev_newL (G := F.G) ex r p⟩
  | [.tup xs], r, p =>
    obtain ⟨v, rfl, h⟩ := reps1 r
    cases h with
    | tup h r => exact ⟨_, _, rfl, .inr (SqT.of (ex _ _ h)), ev_newL (G := F.G) ex r p⟩
theorem em_list {p : Pos} {ml : M (List D)} (hg : F.kd.lookup ("list" : Str) = some NameKind.globalImplicit) (hm : F.G.mg "list" = none) (ha : AM F (e :: es) Γ ml)
    (he : ∀ X, F.Xs X → starEach (e :: es) X.env = (false, eval e X.env) :: starEach es X.env := by intros; rfl) (hpl : ∀ X, F.Xs X → (backTo pos (starEach es X.env)).any (·.1) = false := by intros; rfl) : EM F (.Call (.Name "list" p) (e :: es) [] pos) Γ (b1 pyList ml) :=
  em_callTy (r := fun xs H Q => ∃ p ys, xs = [.ref p] ∧ (SqL F.G.K H p ys ∨ SqT F.G.K H p ys) ∧ ∀ l, H l = none → Q (.ref l) (upd H l (.lst ys))) (fun X hX => by have h := call_list_of (X := X); rw [F.hK X hX] at h; exact h) cm_list hg hm (by decide +kernel) ha (by decide) (by decide) he hpl

/-! ### subscripts -/
def valD {κ : Type} [DecidableEq κ] (kvs : List (κ × D)) (k : κ) : Option D := (kvs.find? fun kv => decide (kv.1 = k)).map (·.2)
def keyOf : D → Option Key
  | .int i => some (.inl i)
  | .str x => some (.inr x)
  | _ => none
def keysOf : List D → Option (List Key)
  | [] => some []
  | d :: ds => match keyOf d, keysOf ds with
    | some k, some ks => some (k :: ks)
    | _, _ => none
def ofOpt {α : Type} : Option α → M α
  | some a => .ok a
  | none => .stk
def pyIx : D → D → M D
  | .str z, .int i => if z.length ≤ sizeLine then (ofOpt (atI z.cps.toList i)).bind fun c => .ok (.str ⟨#[c]⟩) else .stk
  | .lst xs, .int i => ofOpt (atI xs i)
  | .tup xs, .int i => ofOpt (atI xs i)
  | .dct kvs, .tup ks => (ofOpt (keysOf ks)).bind fun k => ofOpt (valD kvs k)
  | .dks kvs, .int i => ofOpt (valD kvs (.inl i))
  | .dks kvs, .str i => ofOpt (valD kvs (.inr i))
  | _, _ => .stk
theorem Po.opt {G : GG} {E : XK} {α β : Type} {S H : Hp} {K : β → Hp → Hp → Prop} {o : Option α} {k : α → M β} (p : Po G E S H K ((ofOpt o).bind k)) : ∃ a, o = some a ∧ Po G E S H K (k a) := by
  cases o with
  | none => exact False.elim p
  | some a => exact ⟨a, rfl, p⟩
theorem Po.opt0 {G : GG} {E : XK} {α : Type} {S H : Hp} {K : α → Hp → Hp → Prop} {o : Option α} (p : Po G E S H K (ofOpt o)) : ∃ a, o = some a ∧ Po G E S H K (.ok a) := by
  cases o with
  | none => exact False.elim p
  | some a => exact ⟨a, rfl, p⟩
theorem reps_at {G : GG} {S : Hp} {vs : List V} {ds : List D} {i : Int} {d : D} (r : Reps G S vs ds) (h : atI ds i = some d) : ∃ v, atI vs i = some v ∧ Rep G S v d := by
  unfold atI at h ⊢
  rw [r.length]
  cases q : ixN ds.length i with
  | none => rw [q] at h; cases h
  | some j =>
    rw [q] at h
    exact r.get h
theorem reps_key {G : GG} {S : Hp} : ∀ {ds : List D} {vs : List V} {k : List Key}, Reps G S vs ds → keysOf ds = some k → vs = k.map kV
  | [], _, _, .nil, e => by cases e; rfl
  | d :: ds, _, _, .cons h r, e => by
    unfold keysOf at e
    split at e
    · rename_i q1 q2
      cases e
      have h2 := reps_key r q2
      cases h <;> first | (cases q1; rw [h2]; rfl) | cases q1
    · cases e
theorem valD_find {G : GG} {S : Hp} {κ : Type} [DecidableEq κ] : ∀ {ks : List (κ × V)} {kvs : List (κ × D)} {k : κ} {d : D}, ks.map (·.1) = kvs.map (·.1) → Reps G S (ks.map (·.2)) (kvs.map (·.2)) → valD kvs k = some d → ∃ v, valV ks k = some v ∧ Rep G S v d
  | [], [], k, d, _, _, e => by cases e
  | (a, v) :: ks, (b, x) :: kvs, k, d, n, .cons h r, e => by
    obtain ⟨n1, n2⟩ := List.cons.inj n
    have n1 : a = b := n1
    subst n1
    unfold valD at e
    unfold valV
    rw [List.find?_cons] at e ⊢
    by_cases q : a = k
    · simp only [q, decide_true] at e ⊢
      cases e
      exact ⟨_, rfl, h⟩
    · simp only [q, decide_false] at e ⊢
      exact valD_find n2 r e
theorem valD_none {κ : Type} [DecidableEq κ] : ∀ {ks : List (κ × V)} {kvs : List (κ × D)} {k : κ}, ks.map (·.1) = kvs.map (·.1) → (valV ks k).isSome = (valD kvs k).isSome
  | [], [], k, _ => rfl
  | (a, v) :: ks, (b, x) :: kvs, k, n => by
    obtain ⟨n1, n2⟩ := List.cons.inj n
    have n1 : a = b := n1
    subst n1
    unfold valD valV
    rw [List.find?_cons, List.find?_cons]
    by_cases q : a = k
    · simp only [q, decide_true]
      rfl
    · simp only [q, decide_false]
      exact valD_none n2
  | [], _ :: _, _, n => by cases n
  | _ :: _, [], _, n => by cases n
theorem ev2x {ta tb : TE} {x : D} {R : V → V → Hp → Prop} {H0 : Hp} {σ : L2.St} {S H : Hp} {K : D → Hp → Hp → Prop} {f : D → D → M D} (ha : EvM F ta Γ (.ok x)) (hb : EvM F tb Γ mb) (hh : Holds F.G H0 σ S H Γ) (p : Po F.G (WE F.W σ) S H K (b2 f (.ok x) mb))
    (h : ∀ y vx vy S2 H2, Grow S H S2 H2 → Rep F.G S2 vx x → Rep F.G S2 vy y → Po F.G (WE F.W σ) S2 H2 K (f x y) → R vx vy H2) : ta σ H fun x H1 => tb σ H1 fun y H2 => R x y H2 := by
  refine ha H0 σ S H _ hh (fun S1 H1 g1 vx rx => ?_)
  have p : Po F.G (WE F.W σ) S H K (mb.bind fun y => f x y) := p
  refine hb H0 σ S1 H1 _ (hh.grow g1) (Po.bind (p.step g1) |>.imp fun y S2 H2 g2 q2 vy ry => ?_)
  exact h y vx vy S2 H2 (g1.trans g2) (rx.mono g2.s) ry q2
theorem ev2e {ta tb : TE} {e : Exc} {R : V → V → Hp → Prop} {H0 : Hp} {σ : L2.St} {S H : Hp} {K : D → Hp → Hp → Prop} {f : D → D → M D} (ha : EvM F ta Γ (.exn e)) (hh : Holds F.G H0 σ S H Γ) (p : Po F.G (WE F.W σ) S H K (b2 f (.exn e) mb)) :
    ta σ H fun x H1 => tb σ H1 fun y H2 => R x y H2 := ha H0 σ S H _ hh p
theorem em_ix (ha : EM F a Γ ma) (hb : EM F b Γ mb) (hs : PlainIx b) : EM F (.Subscript a b pos) Γ (b2 pyIx ma mb) := by
  obtain ⟨ta, pa, ea⟩ := ha
  obtain ⟨tb, pb, eb⟩ := hb
  refine em_or (t := tOp (rIx F.G.K) ta tb) (u := tDGet ta tb) (fun X hX => by have h := pe_ix (pos := pos) ix_seq (pa X hX) (pb X hX) hs; rw [F.hK X hX] at h; exact h) (fun X hX => pe_dget (by have := F.hu X hX; omega) (pa X hX) (pb X hX) hs) ?_
  intro H0 σ S H Q hh p
  cases ma with
  | stk => exact False.elim p
  | exn e => exact .inl (ev2e ea hh p)
  | ok x =>
    cases x with
    | str z =>
      refine .inl (ev2x (R := fun x y H2 => rIx F.G.K x y H2 Q) ea eb hh p fun y vx vy S2 H2 g rx ry q => ?_)
      cases y with
      | int i =>
        obtain ⟨hl, q⟩ := Po.gate (m := (ofOpt (atI z.cps.toList i)).bind fun c => M.ok (D.str ⟨#[c]⟩)) q
        obtain ⟨c, hc, q⟩ := Po.opt q
        cases rx; cases ry
        exact .inr (.inr ⟨z, i, c, rfl, rfl, hl, hc, q.ok g.sub _ (.str _)⟩)
      | _ => exact False.elim q
    | lst xs =>
      refine .inl (ev2x (R := fun x y H2 => rIx F.G.K x y H2 Q) ea eb hh p fun y vx vy S2 H2 g rx ry q => ?_)
      cases y with
      | int i =>
        obtain ⟨c, hc, q⟩ := Po.opt0 (o := atI xs i) q
        cases rx with
        | lst h r =>
          cases ry
          obtain ⟨v, hv, rv⟩ := reps_at r hc
          exact .inl ⟨_, _, i, v, rfl, rfl, SqL.of (g.sub _ _ h), hv, q.ok g.sub _ rv⟩
      | _ => exact False.elim q
    | tup xs =>
      refine .inl (ev2x (R := fun x y H2 => rIx F.G.K x y H2 Q) ea eb hh p fun y vx vy S2 H2 g rx ry q => ?_)
      cases y with
      | int i =>
        obtain ⟨c, hc, q⟩ := Po.opt0 (o := atI xs i) q
        cases rx with
        | tup h r =>
          cases ry
          obtain ⟨v, hv, rv⟩ := reps_at r hc
          exact .inr (.inl ⟨_, _, i, v, rfl, rfl, SqT.of (g.sub _ _ h), hv, q.ok g.sub _ rv⟩)
      | _ => exact False.elim q
    | dct kvs =>
      refine .inr (ev2x (R := fun x y H2 => ∃ a v, x = .ref a ∧ DGet H2 a y (some v) ∧ Q v H2) ea eb hh p fun y vx vy S2 H2 g rx ry q => ?_)
      cases y with
      | tup ks =>
        obtain ⟨k, hk, q⟩ := Po.opt (o := keysOf ks) q
        obtain ⟨d, hd, q⟩ := Po.opt0 (o := valD kvs k) q
        cases rx with
        | dct h n r =>
          cases ry with
          | tup h2 r2 =>
            obtain ⟨v, hv, rv⟩ := valD_find n r hd
            rw [reps_key r2 hk] at h2
            exact ⟨_, v, rfl, .inr ⟨_, k, _, ex_rd g.sub h, rfl, g.sub _ _ h2, hv.symm⟩, q.ok g.sub _ rv⟩
      | _ => exact False.elim q
    | dks kvs =>
      refine .inr (ev2x (R := fun x y H2 => ∃ a v, x = .ref a ∧ DGet H2 a y (some v) ∧ Q v H2) ea eb hh p fun y vx vy S2 H2 g rx ry q => ?_)
      cases y with
      | int i =>
        obtain ⟨d, hd, q⟩ := Po.opt0 (o := valD kvs (Sum.inl i)) q
        cases rx with
        | dks h n r =>
          cases ry
          obtain ⟨v, hv, rv⟩ := valD_find n r hd
          exact ⟨_, v, rfl, .inl ⟨_, Sum.inl i, ex_rd g.sub h, rfl, hv.symm⟩, q.ok g.sub _ rv⟩
      | str i =>
        obtain ⟨d, hd, q⟩ := Po.opt0 (o := valD kvs (Sum.inr i)) q
        cases rx with
        | dks h n r =>
          cases ry
          obtain ⟨v, hv, rv⟩ := valD_find n r hd
          exact ⟨_, v, rfl, .inl ⟨_, Sum.inr i, ex_rd g.sub h, rfl, hv.symm⟩, q.ok g.sub _ rv⟩
      | _ => exact False.elim q
    | _ =>
      refine .inl (ev2x (R := fun x y H2 => rIx F.G.K x y H2 Q) ea eb hh p fun y vx vy S2 H2 g rx ry q => ?_)
      cases y <;> exact False.elim q

/-! ### slices -/
def cutD (xs : List D) (lo hi : Option Int) : List D := (xs.drop (HT.sIx xs.length 0 lo)).take (HT.sIx xs.length xs.length hi - HT.sIx xs.length 0 lo)
theorem reps_cut {G : GG} {S : Hp} {vs : List V} {ds : List D} (r : Reps G S vs ds) (lo hi : Option Int) : Reps G S (cutV vs lo hi) (cutD ds lo hi) := by
  unfold cutV cutD
  rw [r.length]
  exact (r.drop _).take _
def pySl (d : D) (lo hi : Option Int) : M D := match d with
  | .str z => if z.length ≤ sizeLine then .ok (.str (cutS z lo hi)) else .stk
  | .lst xs => .ok (.lst (cutD xs lo hi))
  | .tup xs => if ¬ (HT.sIx xs.length 0 lo = 0 ∧ HT.sIx xs.length xs.length hi = xs.length) then .ok (.tup (cutD xs lo hi)) else .stk
  | _ => .stk
def EvO (F : Fm) (t : TO) (Γ : Gam) (m : M (Option Int)) : Prop := ∀ H0 σ S H Q, Holds F.G H0 σ S H Γ → Po F.G (WE F.W σ) S H (fun o _ H' => Q o H') m → t σ H Q
def OM (F : Fm) (e : Option Expr) (Γ : Gam) (m : M (Option Int)) : Prop := ∃ t, (∀ X, F.Xs X → PO X e t) ∧ EvO F t Γ m
def someI : D → M (Option Int)
  | .int i => .ok (some i)
  | _ => .stk
theorem om_none : OM F none Γ (.ok none) := ⟨_, fun X _ => po_none, fun H0 σ S H Q hh p => p.ok hh.ex⟩
theorem om_some (ha : EM F a Γ ma) : OM F (some a) Γ (b1 someI ma) := by
  obtain ⟨t, p, f⟩ := ha
  refine ⟨tPart t, fun X hX => po_some (p X hX), fun H0 σ S H Q hh po => ?_⟩
  refine f H0 σ S H _ hh (Po.bind po |>.imp fun d S1 H1 g k v r => ?_)
  cases r with
  | int i => exact ⟨i, rfl, Po.ok (a := some i) g.sub k⟩
  | _ => exact False.elim k
def slM (m : M D) (lo hi : M (Option Int)) : M D := m.bind fun d => lo.bind fun l => hi.bind fun h => pySl d l h
theorem em_slice {lo hi : Option Expr} {ml mh : M (Option Int)} {p2 : Pos} (ha : EM F a Γ ma) (hl : OM F lo Γ ml) (hh : OM F hi Γ mh) : EM F (.Subscript a (.Slice lo hi none p2) pos) Γ (slM ma ml mh) := by
  obtain ⟨ta, pa, ea⟩ := ha
  obtain ⟨tl, pl, el⟩ := hl
  obtain ⟨th, ph, eh⟩ := hh
  refine ⟨tSl (fun x l h H Q => rSlL F.G.K x l h H Q ∨ rSlS x l h H Q ∨ rSlT F.G.K x l h H Q) ta tl th, fun X hX => ?_, fun H0 σ S H Q hh p => ?_⟩
  · have h := pe_slice (p2 := p2) (pos := pos) (sl_list.or (sl_str.or sl_tup)) (pa X hX) (pl X hX) (ph X hX)
    rw [F.hK X hX] at h
    exact h
  · refine ea H0 σ S H _ hh (Po.bind p |>.imp fun d S1 H1 g1 q1 v r => ?_)
    refine el H0 σ S1 H1 _ (hh.grow g1) (Po.bind q1 |>.imp fun l S2 H2 g2 q2 => ?_)
    refine eh H0 σ S2 H2 _ (hh.grow (g1.trans g2)) (Po.bind q2 |>.imp fun h S3 H3 g3 q3 => ?_)
    have r := (r.mono g2.s).mono g3.s
    cases d with
    | str z =>
      obtain ⟨hl, q3⟩ := Po.gate (m := M.ok (D.str (cutS z l h))) q3
      cases r
      exact .inr (.inl ⟨z, rfl, hl, q3.ok g3.sub _ (.str _)⟩)
    | lst xs =>
      cases r with
      | lst h r => exact .inl ⟨_, _, rfl, SqL.of (g3.sub _ _ h), ev_newL (G := F.G) g3.sub (reps_cut r _ _) q3⟩
    | tup xs =>
      obtain ⟨hl, q3⟩ := Po.gate (m := M.ok (D.tup (cutD xs l h))) q3
      cases r with
      | tup h r => exact .inr (.inr ⟨_, _, rfl, SqT.of (g3.sub _ _ h), by rw [r.length]; exact hl, ev_newT (G := F.G) g3.sub (reps_cut r _ _) q3⟩)
    | _ => exact False.elim q3

/-! ### in, is None -/
def flatD : D → Bool
  | .non => true | .bl _ => true | .int _ => true | .str _ => true
  | _ => false
def eqF : D → D → Bool
  | .non, .non => true
  | .bl a, .bl b => a == b
  | .bl a, .int b => (if a then 1 else 0) == b
  | .int a, .bl b => a == (if b then 1 else 0)
  | .int a, .int b => a == b
  | .str a, .str b => a == b
  | _, _ => false
def inD (x : D) (xs : List D) : Bool := xs.any fun y => eqF y x
def memD (neg : Bool) (x y : D) : M D := match y with
  | .tup xs => if flatD x = true ∧ xs.all flatD = true then .ok (.bl (if neg then !inD x xs else inD x xs)) else .stk
  | .lst xs => if flatD x = true ∧ xs.all flatD = true then .ok (.bl (if neg then !inD x xs else inD x xs)) else .stk
  | _ => .stk
theorem rep_flat {G : GG} {S : Hp} {v : V} {d : D} (r : Rep G S v d) (h : flatD d = true) : flatV v = true := by
  cases r <;> first | rfl | exact absurd h Bool.false_ne_true
theorem rep_eqF {G : GG} {S : Hp} {v w : V} {d e : D} (r : Rep G S v d) (q : Rep G S w e) (h : flatD d = true) (k : flatD e = true) : eqV v w = eqF d e := by
  cases r <;> first
    | exact absurd h Bool.false_ne_true
    | (cases q <;> first | exact absurd k Bool.false_ne_true | rfl)
theorem reps_flat {G : GG} {S : Hp} : ∀ {vs : List V} {ds : List D}, Reps G S vs ds → ds.all flatD = true → vs.all flatV = true
  | _, _, .nil, _ => rfl
  | _, _, .cons r q, h => by
    rw [List.all_cons, Bool.and_eq_true] at h ⊢
    exact ⟨rep_flat r h.1, reps_flat q h.2⟩
theorem reps_in {G : GG} {S : Hp} {x : V} {d : D} (r : Rep G S x d) (h : flatD d = true) : ∀ {vs : List V} {ds : List D}, Reps G S vs ds → ds.all flatD = true → inV x vs = inD d ds
  | _, _, .nil, _ => rfl
  | _, _, .cons q qs, k => by
    rw [List.all_cons, Bool.and_eq_true] at k
    have ih := reps_in r h qs k.2
    unfold inV inD at ih ⊢
    rw [List.any_cons, List.any_cons, ih, rep_eqF q r k.1 h]
theorem rm_mem {neg : Bool} : RM F (rIn F.G.K neg) (memD neg) := by
  intro x y vx vy σ S H Q ex rx ry p
  cases y with
  | tup xs =>
    obtain ⟨hl, q⟩ := Po.gate (m := M.ok (D.bl (if neg then !inD x xs else inD x xs))) p
    cases ry with
    | tup h r => exact ⟨_, _, rfl, .inr (SqT.of (ex _ _ h)), rep_flat rx hl.1, reps_flat r hl.2, by rw [reps_in rx hl.1 r hl.2]; exact q.ok ex _ (.bl _)⟩
  | lst xs =>
    obtain ⟨hl, q⟩ := Po.gate (m := M.ok (D.bl (if neg then !inD x xs else inD x xs))) p
    cases ry with
    | lst h r => exact ⟨_, _, rfl, .inl (SqL.of (ex _ _ h)), rep_flat rx hl.1, reps_flat r hl.2, by rw [reps_in rx hl.1 r hl.2]; exact q.ok ex _ (.bl _)⟩
  | _ => exact False.elim p
def isNon : D → Bool
  | .non => true
  | _ => false
def pyIs (x y : D) : M D := match y with
  | .non => .ok (.bl (isNon x))
  | _ => .stk
def pyIsNot (x y : D) : M D := match y with
  | .non => .ok (.bl (!isNon x))
  | _ => .stk
theorem rep_non {G : GG} {S : Hp} {v : V} {d : D} (r : Rep G S v d) : decide (v = .non) = isNon d := by
  cases r <;> first | rfl | exact decide_eq_false (fun z => by cases z)
theorem rm_is : RM F (fun x y H Q => y = .non ∧ Q (.bl (decide (x = .non))) H) pyIs := by
  intro x y vx vy σ S H Q ex rx ry p
  cases y with
  | non => cases ry; exact ⟨rfl, by rw [rep_non rx]; exact Po.ok (a := D.bl (isNon x)) ex p _ (.bl _)⟩
  | _ => exact False.elim p
theorem rm_isnot : RM F (fun x y H Q => y = .non ∧ Q (.bl (!decide (x = .non))) H) pyIsNot := by
  intro x y vx vy σ S H Q ex rx ry p
  cases y with
  | non => cases ry; exact ⟨rfl, by rw [rep_non rx]; exact Po.ok (a := D.bl (!isNon x)) ex p _ (.bl _)⟩
  | _ => exact False.elim p

/-! ### fields of instances -/
structure Fld (G : GG) (c : Nat) (f : Str) : Prop where
  cl : Cls G.K (G.ca c)
  no : NoAttr G.K (G.ca c) f
def pyFld (c : Nat) (f : Str) : D → M D
  | .obj c' fs => if c' = c then ofOpt (fs.lookup f) else .stk
  | _ => .stk
theorem lookup_rep {G : GG} {S : Hp} {f : Str} : ∀ {vs : List (Str × V)} {fs : List (Str × D)} {d : D}, vs.map (·.1) = fs.map (·.1) → Reps G S (vs.map (·.2)) (fs.map (·.2)) → fs.lookup f = some d → ∃ v, vs.lookup f = some v ∧ Rep G S v d
  | [], [], _, _, _, e => by cases e
  | (a, v) :: vs, (b, x) :: fs, d, n, .cons h r, e => by
    obtain ⟨n1, n2⟩ := List.cons.inj n
    have n1 : a = b := n1
    subst n1
    rw [List.lookup_cons] at e ⊢
    cases q : f == a with
    | true => simp only [q] at e ⊢; cases e; exact ⟨v, rfl, h⟩
    | false => simp only [q] at e ⊢; exact lookup_rep n2 r e
theorem em_fld {c : Nat} {f : Str} (K : Fld F.G c f) (ha : EM F a Γ ma) (hb : ∀ X, F.Xs X → attributeBase a f X.env (eval a X.env) = eval a X.env := by intros; rfl) : EM F (.Attribute a f pos) Γ (b1 (pyFld c f) ma) := by
  obtain ⟨t, p, g⟩ := ha
  refine ⟨tFld F.G.K t f, fun X hX => by have h := pe_fld (pos := pos) (p X hX) (hb X hX); rw [F.hK X hX] at h; exact h, fun H0 σ S H Q hh po => ?_⟩
  refine g H0 σ S H _ hh (Po.bind po |>.imp fun d S1 H1 g1 k v r => ?_)
  cases r with
  | @obj ad dx c' vs fs h1 h2 n r =>
    obtain ⟨hc, k2⟩ := Po.gate (m := ofOpt (fs.lookup f)) k
    obtain ⟨x, hx, k3⟩ := Po.opt0 k2
    obtain ⟨v, hv, rv⟩ := lookup_rep n r hx
    rw [hc] at h1
    exact ⟨_, _, dx, vs, v, rfl, g1.sub _ _ h1, K.cl, K.no, hv, k3.ok g1.sub _ rv⟩
  | _ => exact False.elim k
end
end Mir
namespace Mir
open PySem PySem.Spec L2

/-! ### ends -/
inductive Out where
  | stk | exn (e : Exc) (Γ : Gam) | ret (d : D) | nx (Γ : Gam)
def Ctl.out {X S : Type} (fx : X → Gam) (fs : S → Gam) : Ctl X S → Out
  | .stk => .stk
  | .exn e x => .exn e (fx x)
  | .ret d => .ret d
  | .nx s => .nx (fs s)
def Ctl.noNx {X S : Type} (c : Ctl X S) : Prop := ∀ s, c ≠ .nx s
/-- a new object -/
def NewV (H : Hp) (v : V) : Prop := ∃ p, v = .ref p ∧ H p = none
def OPo (F : Fm) (S0 H0 : Hp) (Dn : Ends) : Out → Prop
  | .stk => False
  | .exn e Γ => ∀ cls dd σ S H, Grow S0 H0 S H → (∃ Δ, Holds F.G H0 σ S H Δ ∧ Weak Δ Γ) → RepX F.G S cls dd e → F.W cls dd σ H
  | .ret d => ∀ v S H, Grow S0 H0 S H → Rep F.G S v d → (F.fr = true → NewV H0 v) → Dn.rt v H
  | .nx Γ => ∀ σ S H, Grow S0 H0 S H → Holds F.G H0 σ S H Γ → Dn.nx σ H
def DoesM (F : Fm) (t : TS) (Γ : Gam) (o : Out) : Prop := ∀ S0 H0 Dn σ S H, Grow S0 H0 S H → Holds F.G H0 σ S H Γ → OPo F S0 H0 Dn o → t Dn σ H
def SM (F : Fm) (st : Stmt) (Γ : Gam) (o : Out) : Prop := ∃ t, (∀ X, F.Xs X → PS X st t) ∧ DoesM F t Γ o
def BM (F : Fm) (sts : List Stmt) (Γ : Gam) (o : Out) : Prop := ∃ t, (∀ X, F.Xs X → PSs X sts t) ∧ DoesM F t Γ o

/-! ### the widest reading of a piece -/
def cE (F : Fm) (e : Expr) : TE := fun σ H Q => ∃ t, (∀ X, F.Xs X → PE X e t) ∧ t σ H Q
def cT (F : Fm) (e : Expr) : TT := fun σ H Q => ∃ t, (∀ X, F.Xs X → PT X e t) ∧ t σ H Q
def cB (F : Fm) (sts : List Stmt) : TS := fun D σ H => ∃ t, (∀ X, F.Xs X → PSs X sts t) ∧ t D σ H
section
variable {F : Fm} {Γ : Gam} {e : Expr} {sts : List Stmt} {m : M D} {mt : M Bool} {o : Out}
theorem cE_ok (X : Cx) (hX : F.Xs X) : PE X e (cE F e) := ⟨fun pins s σ H Q I ⟨_, ht, h⟩ => (ht X hX).run pins s σ H Q I h⟩
theorem cT_ok (X : Cx) (hX : F.Xs X) : PT X e (cT F e) := ⟨fun pins s σ H Q I ⟨_, ht, h⟩ => (ht X hX).run pins s σ H Q I h⟩
theorem cB_ok (X : Cx) (hX : F.Xs X) : PSs X sts (cB F sts) := ⟨fun pins s σ H D I ⟨_, ht, h⟩ => (ht X hX).run pins s σ H D I h⟩
theorem EM.c (h : EM F e Γ m) : EvM F (cE F e) Γ m := let ⟨t, p, q⟩ := h; fun H0 σ S H Q hh po => ⟨t, p, q H0 σ S H Q hh po⟩
theorem TM.c (h : TM F e Γ mt) : EvT F (cT F e) Γ mt := let ⟨t, p, q⟩ := h; fun H0 σ S H Q hh po => ⟨t, p, q H0 σ S H Q hh po⟩
theorem BM.c (h : BM F sts Γ o) : DoesM F (cB F sts) Γ o := let ⟨t, p, q⟩ := h; fun S0 H0 Dn σ S H g hh po => ⟨t, p, q S0 H0 Dn σ S H g hh po⟩
end

theorem Grow.base {S0 H0 S H : Hp} (a : Grow S0 H0 S H) : Grow S H0 S H := ⟨Same.refl _, a.h, a.sub, fun _ _ h => h⟩
theorem Grow.rebase {S0 H0 S H S' H' : Hp} (a : Grow S0 H0 S H) (b : Grow S H0 S' H') : Grow S0 H0 S' H' :=
  ⟨a.s.trans b.s, b.h, b.sub, fun p h1 h2 => b.sep p h1 (a.sep p h1 h2)⟩
theorem OPo.rebase {F : Fm} {S0 H0 S H : Hp} {Dn : Ends} {o : Out} (a : Grow S0 H0 S H) (p : OPo F S0 H0 Dn o) : OPo F S H0 Dn o := by
  cases o with
  | stk => exact p
  | exn e Γ => exact fun cls dd σ S' H' g => p cls dd σ S' H' (a.rebase g)
  | ret d => exact fun v S' H' g => p v S' H' (a.rebase g)
  | nx Γ => exact fun σ S' H' g => p σ S' H' (a.rebase g)

section
variable {F : Fm} {Γ : Gam} {S0 H0 : Hp} {Dn : Ends} {X S : Type} {fx : X → Gam} {fs : S → Gam} {x0 : X} {σ : L2.St} {α : Type}
/-- an expression within a statement: what is wanted behind it -/
theorem opo_bind {m : M α} {k : α → Ctl X S} {Si Hi : Hp} (g : Grow S0 H0 Si Hi) (hh : Holds F.G H0 σ Si Hi Γ) (w : Weak Γ (fx x0)) (p : OPo F S0 H0 Dn ((m.bindC x0 k).out fx fs)) :
    Po F.G (WE F.W σ) Si Hi (fun a S1 H1 => Grow S0 H0 S1 H1 ∧ Holds F.G H0 σ S1 H1 Γ ∧ OPo F S0 H0 Dn ((k a).out fx fs)) m := by
  cases m with
  | stk => exact p
  | exn e => exact fun cls dd S' H' g' r => p cls dd σ S' H' (g.trans g') ⟨Γ, hh.grow g', w⟩ r
  | ok a => exact fun S' H' g' => ⟨g.trans g', hh.grow g', p⟩
end

section
variable {F : Fm} {Γ : Gam} {X S J : Type} {fx : X → Gam} {fs : S → Gam} {x0 : X} {a b c e : Expr} {es : List Expr} {ma mb mc m : M D} {mt : M Bool} {pos : Pos} {st : Stmt} {rest body : List Stmt}

/-- a block's two parts -/
theorem bm_cons {t : TS} {o : Out} (h : ∀ X, F.Xs X → PS X st t) (d : DoesM F (tSeq t (cB F rest)) Γ o) : BM F (st :: rest) Γ o := ⟨_, fun X hX => pss_cons (h X hX) (cB_ok X hX), d⟩
theorem bm_nil {s : S} (w : Weak Γ (fs s)) (l : (fs s).length = Γ.length := by rfl) : BM F [] Γ ((Ctl.nx s : Ctl X S).out fx fs) :=
  ⟨_, fun X _ => pss_nil, fun S0 H0 Dn σ S H g hh p => p σ S H g (hh.weak w)⟩
theorem bm_pass {o : Out} (h : BM F rest Γ o) : BM F (.Pass pos :: rest) Γ o := bm_cons (fun X _ => ps_pass) fun S0 H0 Dn σ S H g hh p => h.c S0 H0 Dn σ S H g hh p
/-- a statement that is never met -/
theorem bm_stk {sts : List Stmt} : BM F sts Γ .stk := ⟨tNever, fun X _ => pss_never, fun S0 H0 Dn σ S H g hh p => p⟩

/-! ### name = e -/
def GM (F : Fm) (st : Stmt) (i : Nat) (Γ : Gam) (m : M D) : Prop := ∃ te, (∀ X, F.Xs X → PS X st (tAsg te (gName i))) ∧ EvM F te Γ m
theorem gm_set (i : Nat) {x : Str} {pos' : Pos} (hi : F.N[i]? = some x) (hl : F.L[i]? = some true) (he : EM F e Γ m) (hs : ∀ X, F.Xs X → swapsWith e (some (.Name x pos')) pos.line X.env = pure false := by intros; rfl) : GM F (.Assign [.Name x pos'] e pos) i Γ m := by
  obtain ⟨t, p, q⟩ := he
  refine ⟨t, fun X hX => ?_, q⟩
  have h := F.loc X hX i x hl hi
  have hn := F.hN X hX
  exact ps_set (by rw [hn]; exact F.nd) (by rw [hn]; exact hi) h.1 (p X hX) (hs X hX) h.2
theorem bm_asg (i : Nat) {k : D → Ctl X S} (h : GM F st i Γ m) (w : Weak Γ (fx x0)) (hr : ∀ d, BM F rest (Γ.set i (Sl.val d)) ((k d).out fx fs)) : BM F (st :: rest) Γ ((m.bindC x0 k).out fx fs) := by
  obtain ⟨t, p, q⟩ := h
  refine bm_cons p fun S0 H0 Dn σ S H g hh po => ?_
  refine q H0 σ S H _ hh ((opo_bind g hh w po).imp fun d S1 H1 _ ⟨g1, h1, p1⟩ v r => ?_)
  exact (hr d).c S0 H0 Dn _ S1 H1 g1 (h1.set r) p1
theorem bm_ret {he : EM F e Γ m} (w : Weak Γ (fx x0)) (hfr : F.fr = false := by rfl) : BM F [.Return (some e) pos] Γ ((m.bindC x0 Ctl.ret : Ctl X S).out fx fs) := by
  obtain ⟨t, p, q⟩ := he
  refine ⟨tRet t, fun X hX => pss_one (ps_ret (p X hX)), fun S0 H0 Dn σ S H g hh po => ?_⟩
  exact q H0 σ S H _ hh ((opo_bind g hh w po).imp fun d S1 H1 _ ⟨g1, h1, p1⟩ v r => p1 v S1 H1 g1 r fun z => by rw [hfr] at z; cases z)
theorem bm_retN (hfr : F.fr = false := by rfl) : BM F [.Return none pos] Γ ((Ctl.ret .non : Ctl X S).out fx fs) :=
  ⟨tRetN, fun X hX => pss_one ps_retN, fun S0 H0 Dn σ S H g hh po => po .non S H g .non fun z => by rw [hfr] at z; cases z⟩
/-- an expression for its effect -/
theorem bm_expr {k : Ctl X S} (he : EM F e Γ m) (w : Weak Γ (fx x0)) (hr : BM F rest Γ (k.out fx fs)) (hs : ∀ X, F.Xs X → swapsWith e none pos.line X.env = pure false := by intros; rfl) : BM F (.Expr e pos :: rest) Γ ((m.bindC x0 fun _ => k).out fx fs) := by
  obtain ⟨t, p, q⟩ := he
  refine bm_cons (fun X hX => ps_expr (p X hX) (hs X hX)) fun S0 H0 Dn σ S H g hh po => ?_
  exact q H0 σ S H _ hh ((opo_bind g hh w po).imp fun d S1 H1 _ ⟨g1, h1, p1⟩ v r => hr.c S0 H0 Dn σ S1 H1 g1 h1 p1)
theorem bm_doc {o : Out} {x : Str} {j} {p2} (h : BM F rest Γ o) : BM F (.Expr (.Constant (.str x) j p2) pos :: rest) Γ o := bm_cons (fun X _ => ps_doc) fun S0 H0 Dn σ S H g hh p => h.c S0 H0 Dn σ S H g hh p

/-! ### if -/
theorem OPo.seq {Dn : Ends} {S0 H0 : Hp} {fj : J → Gam} {c : Ctl X J} {k : J → Ctl X S} {nx : L2.St → Hp → Prop} (p : OPo F S0 H0 Dn ((c.bind k).out fx fs)) (h : ∀ j, OPo F S0 H0 Dn ((k j).out fx fs) → ∀ σ S H, Grow S0 H0 S H → Holds F.G H0 σ S H (fj j) → nx σ H) :
    OPo F S0 H0 { Dn with nx := nx } (c.out fx fj) := by
  cases c with
  | stk => exact p
  | exn e x => exact p
  | ret d => exact p
  | nx j => exact fun σ S H g hh => h j p σ S H g hh
theorem bm_if {fj : J → Gam} {ca cb : Ctl X J} {k : J → Ctl X S} {A B : List Stmt} (hc : TM F c Γ mt) (w : Weak Γ (fx x0)) (ha : BM F A Γ (ca.out fx fj)) (hb : BM F B Γ (cb.out fx fj)) (hr : ∀ j, BM F rest (fj j) ((k j).out fx fs)) :
    BM F (.If c A B pos :: rest) Γ (((mt.bindC x0 fun c => if c = true then ca else cb).bind k).out fx fs) := by
  refine bm_cons (t := tIfS (cT F c) (cB F A) (cB F B)) (fun X hX => ps_if (cT_ok X hX) (cB_ok X hX) (cB_ok X hX)) fun S0 H0 Dn σ S H g hh po => ?_
  have po := OPo.seq (nx := cB F rest Dn) (fj := fj) po fun j q σ S H g hh => (hr j).c S0 H0 Dn σ S H g hh q
  refine hc.c H0 σ S H _ hh ((opo_bind g hh w po).imp fun b S1 H1 _ ⟨g1, h1, p1⟩ => ?_)
  cases b with
  | true => exact iteT (ha.c S0 H0 _ σ S1 H1 g1 h1 p1)
  | false => exact iteF (hb.c S0 H0 _ σ S1 H1 g1 h1 p1)
/-- its first part leaves -/
theorem OPo.leave {Dn : Ends} {S0 H0 : Hp} {c : Ctl X S} {nx : L2.St → Hp → Prop} (n : c.noNx) (p : OPo F S0 H0 Dn (c.out fx fs)) : OPo F S0 H0 { Dn with nx := nx } (c.out fx fs) := by
  cases c with
  | stk => exact p
  | exn e x => exact p
  | ret d => exact p
  | nx s => exact absurd rfl (n s)
theorem bm_ifl {ca k : Ctl X S} {A : List Stmt} (hc : TM F c Γ mt) (w : Weak Γ (fx x0)) (ha : BM F A Γ (ca.out fx fs)) (n : ca.noNx) (hr : BM F rest Γ (k.out fx fs)) :
    BM F (.If c A [] pos :: rest) Γ ((mt.bindC x0 fun c => if c = true then ca else k).out fx fs) := by
  refine bm_cons (t := tIfS (cT F c) (cB F A) tNext) (fun X hX => ps_if (cT_ok X hX) (cB_ok X hX) pss_nil) fun S0 H0 Dn σ S H g hh po => ?_
  refine hc.c H0 σ S H _ hh ((opo_bind g hh w po).imp fun b S1 H1 _ ⟨g1, h1, p1⟩ => ?_)
  cases b with
  | true => exact iteT (ha.c S0 H0 _ σ S1 H1 g1 h1 (OPo.leave n p1))
  | false => exact iteF (hr.c S0 H0 Dn σ S1 H1 g1 h1 p1)
theorem noNx_bindC {α : Type} {m : M α} {k : α → Ctl X S} (h : ∀ a, (k a).noNx) : (m.bindC x0 k).noNx := fun s => by
  cases m with
  | stk => exact fun z => by cases z
  | exn e => exact fun z => by cases z
  | ok a => exact h a s
theorem noNx_ret {d : D} : (Ctl.ret d : Ctl X S).noNx := fun s z => by cases z
theorem noNx_stk : (Ctl.stk : Ctl X S).noNx := fun s z => by cases z
theorem noNx_exn {e : Exc} : (Ctl.exn e x0 : Ctl X S).noNx := fun s z => by cases z
theorem noNx_ite {p : Prop} [Decidable p] {a b : Ctl X S} (h : a.noNx) (k : b.noNx) : (if p then a else b).noNx := by split <;> assumption
theorem noNx_bind {c : Ctl X J} {k : J → Ctl X S} (h : ∀ a, (k a).noNx) : (c.bind k).noNx := fun s => by
  cases c with
  | stk => exact fun z => by cases z
  | exn e => exact fun z => by cases z
  | ret d => exact fun z => by cases z
  | nx a => exact h a s

/-! ### for -/
def ItSem (G : GG) (J : It) (S : Hp) (ds : List D) : Prop := ∀ S' H', Ex S S' → Ex S' H' → J.stop ds.length H' ∧ ∀ i d, ds[i]? = some d → J.go i H' ∧ ∀ x H'', J.yld i H' x H'' → ∃ S'', Grow S' H' S'' H'' ∧ Rep G S'' x d
def IvM (F : Fm) (wi : TI) (Γ : Gam) (m : M (List D)) : Prop := ∀ H0 σ S H R, Holds F.G H0 σ S H Γ → Po F.G (WE F.W σ) S H (fun ds S' H' => ∀ J, ItSem F.G J S' ds → R J H') m → wi σ H R
def IM (F : Fm) (tg iter : Expr) (Γ : Gam) (m : M (List D)) : Prop := ∃ wi, (∀ X, F.Xs X → PI X tg iter wi) ∧ IvM F wi Γ m
/-- a target: what it does with a datum -/
def TgM (F : Fm) (tg : Expr) (f : D → Gam → Option Gam) : Prop := ∃ g, (∀ X, F.Xs X → PG X tg g) ∧ ∀ H0 σ S H v d Γ Γ' (Q : L2.St → Hp → Prop), Holds F.G H0 σ S H Γ → Rep F.G S v d → f d Γ = some Γ' → (∀ σ', Holds F.G H0 σ' S H Γ' → σ'.length = σ.length → (∀ i : Nat, F.L[i]? ≠ some true → σ'[i]? = σ[i]?) → Q σ' H) → g v σ H Q
theorem tg_name (i : Nat) {x : Str} (hi : F.N[i]? = some x) (hl : F.L[i]? = some true) : TgM F (.Name x pos) (fun d Γ => some (Γ.set i (Sl.val d))) := by
  refine ⟨gName i, fun X hX => ?_, fun H0 σ S H v d Γ Γ' Q hh r e q => ?_⟩
  · have h := F.loc X hX i x hl hi
    have hn := F.hN X hX
    exact pg_name (by rw [hn]; exact F.nd) (by rw [hn]; exact hi) h.1 h.2
  · cases e
    exact q _ (hh.set r) (by simp) fun j hj => List.getElem?_set_ne (fun (z : i = j) => hj (by rw [← z]; exact hl))
def forC (f : D → S → Ctl X S) : List D → S → Ctl X S
  | [], s => .nx s
  | d :: ds, s => (f d s).bind (forC f ds)
theorem bm_for {T : Type} {fj : J → Gam} {j0 : J} {mi : M (List D)} {f : D → J → Ctl X J} {tf : D → Gam → Option Gam} {tg iter : Expr} {k : J → Ctl X S} (hi : IM F tg iter Γ mi) (w : Weak Γ (fx x0)) (wj : Weak Γ (fj j0)) (lj : (fj j0).length = Γ.length) (ht : TgM F tg tf)
    (hb : ∀ d j, (∃ Γ', tf d (fj j) = some Γ' ∧ BM F body Γ' ((f d j).out fx fj)) ∨ f d j = .stk) (hr : ∀ j, BM F rest (fj j) ((k j).out fx fs)) (hcm : F.cm = true)
    (hs : ∀ X, F.Xs X → ∀ x, foldedSetIterable iter X.env x = pure x := by intros; rfl) :
    BM F (.For tg iter body [] pos :: rest) Γ ((mi.bindC x0 fun ds => (forC f ds j0).bind k).out fx fs) := by
  obtain ⟨wi, pi, ei⟩ := hi
  obtain ⟨g, pg, eg⟩ := ht
  refine bm_cons (t := tFor wi g (cB F body)) (fun X hX => ps_for (F.po X hX) (F.hc hcm X hX) (pi X hX) (pg X hX) (cB_ok X hX) (hs X hX)) fun S0 H0 Dn σ S H gr hh po => ?_
  refine ei H0 σ S H _ hh ((opo_bind gr hh w po).imp fun ds S1 H1 _ ⟨g1, h1, p1⟩ J hJ => ?_)
  refine ⟨fun i m σ2 H2 => m = ds.length - i ∧ i ≤ ds.length ∧ ∃ S2 j, Grow S0 H0 S2 H2 ∧ Ex S1 S2 ∧ Holds F.G H0 σ2 S2 H2 (fj j) ∧ OPo F S0 H0 Dn (((forC f (ds.drop i) j).bind k).out fx fs), ⟨ds.length, by simp, Nat.zero_le _, S1, j0, g1, Same.refl _, h1.weak wj, p1⟩, ?_⟩
  rintro i m σ2 H2 ⟨rfl, hi, S2, j, g2, e12, hh2, p2⟩
  obtain ⟨stop, go⟩ := hJ S2 H2 e12 g2.sub
  by_cases hlt : i < ds.length
  · obtain ⟨hgo, hy⟩ := go i ds[i] (List.getElem?_eq_getElem hlt)
    refine .inr ⟨hgo, fun σ3 H3 => ∃ S3 j, Grow S0 H0 S3 H3 ∧ Ex S1 S3 ∧ Holds F.G H0 σ3 S3 H3 (fj j) ∧ OPo F S0 H0 Dn (((forC f (ds.drop (i + 1)) j).bind k).out fx fs), fun σ' H' q => ⟨ds.length - (i + 1), by omega, rfl, hlt, q⟩, fun x H3 y => ?_⟩
    obtain ⟨S3, g3, r3⟩ := hy x H3 y
    rw [List.drop_eq_getElem_cons hlt] at p2
    have p2 : OPo F S0 H0 Dn ((((f ds[i] j).bind (forC f (ds.drop (i + 1)))).bind k).out fx fs) := p2
    rcases hb ds[i] j with ⟨Γ', e', hbm⟩ | hstk
    · refine eg H0 σ2 S3 H3 x ds[i] (fj j) Γ' _ (hh2.grow g3) r3 e' fun σ3 hh3 _ _ => ?_
      have gg : Grow S0 H0 S3 H3 := g2.trans g3
      refine hbm.c S3 H0 _ σ3 S3 H3 gg.base hh3 ?_
      revert p2
      cases f ds[i] j with
      | stk => exact fun p2 => p2
      | exn e x => exact fun p2 => OPo.rebase (o := Out.exn e (fx x)) gg p2
      | ret d => exact fun p2 => OPo.rebase (o := Out.ret d) gg p2
      | nx s => exact fun p2 σ4 S4 H4 g4 hh4 => ⟨S4, s, gg.rebase g4, (e12.trans g3.s).trans g4.s, hh4, p2⟩
    · rw [hstk] at p2
      exact False.elim p2
  · have e : i = ds.length := by omega
    subst e
    refine .inl ⟨stop, ?_⟩
    rw [List.drop_length] at p2
    exact (hr j).c S0 H0 Dn σ2 S2 H2 g2 hh2 p2
end
end Mir
namespace Mir
open PySem PySem.Spec L2

/-! ### what is walked -/
theorem PI_or {X : Cx} {tg e : Expr} {t u : TI} (h : PI X tg e t) (k : PI X tg e u) : PI X tg e (fun σ H R => t σ H R ∨ u σ H R) :=
  ⟨fun pins s σ H R I q => q.elim (h.run pins s σ H R I) (k.run pins s σ H R I)⟩
def signsD (x : Str) : List D := x.cps.toList.map fun c => .str ⟨#[c]⟩
def pyItems : D → M (List D)
  | .lst xs => .ok xs
  | .tup xs => .ok xs
  | .scr ns => .ok (ns.map .int)
  | .str x => .ok (signsD x)
  | _ => .stk
section
variable {F : Fm} {Γ : Gam} {a b c e : Expr} {es : List Expr} {ma mb mc m : M D} {mt : M Bool} {pos : Pos} {tg iter : Expr} {G : GG} {S : Hp}
theorem it_list {p : Addr} {vs : List V} {ds : List D} (h : SqL G.K S p vs) (r : Reps G S vs ds) : ItSem G (Itl G.K p) S ds := fun S' H' e1 e2 => by
  have h' := ex_l e2 (ex_l e1 h)
  refine ⟨⟨vs, h', by rw [r.length]; exact Nat.le_refl _⟩, fun i d hd => ?_⟩
  obtain ⟨v, hv, rv⟩ := r.get hd
  refine ⟨⟨vs, v, h', hv⟩, fun x H'' y => ?_⟩
  obtain ⟨rfl, y⟩ := y
  have : v = x := Option.some.inj (hv.symm.trans (y vs h'))
  subst this
  exact ⟨S', Grow.refl e2, rv.mono e1⟩
theorem it_tup {p : Addr} {vs : List V} {ds : List D} (h : SqT G.K S p vs) (r : Reps G S vs ds) : ItSem G (Itt G.K p) S ds := fun S' H' e1 e2 => by
  have h' := ex_t e2 (ex_t e1 h)
  refine ⟨⟨vs, h', by rw [r.length]; exact Nat.le_refl _⟩, fun i d hd => ?_⟩
  obtain ⟨v, hv, rv⟩ := r.get hd
  refine ⟨⟨vs, v, h', hv⟩, fun x H'' y => ?_⟩
  obtain ⟨rfl, y⟩ := y
  have : v = x := Option.some.inj (hv.symm.trans (y vs h'))
  subst this
  exact ⟨S', Grow.refl e2, rv.mono e1⟩
theorem it_str {x : Str} : ItSem G (Its x) S (signsD x) := fun S' H' e1 e2 => by
  refine ⟨by show x.cps.size ≤ (signsD x).length; unfold signsD; rw [List.length_map, Array.length_toList]; exact Nat.le_refl _, fun i d hd => ?_⟩
  unfold signsD at hd
  rw [List.getElem?_map, Array.getElem?_toList] at hd
  cases q : x.cps[i]? with
  | none => rw [q] at hd; cases hd
  | some c =>
    rw [q] at hd
    cases hd
    refine ⟨(Array.getElem?_eq_some_iff.mp q).1, fun v H'' y => ?_⟩
    obtain ⟨rfl, c', hc, rfl⟩ := y
    rw [q] at hc
    cases hc
    exact ⟨S', Grow.refl e2, .str _⟩
theorem reps_ints {ns : List Int} : Reps G S (ns.map V.int) (ns.map D.int) := by
  induction ns with
  | nil => exact .nil
  | cons n ns ih => exact .cons (.int n) ih
theorem im_seq (he : EM F e Γ m) : IM F tg e Γ (b1 pyItems m) := by
  obtain ⟨t, p, f⟩ := he
  refine ⟨fun σ H R => (iList F.G.K t σ H R ∨ iTup F.G.K t σ H R) ∨ iStr t σ H R, fun X hX => ?_, fun H0 σ S H R hh po => ?_⟩
  · have h := PI_or (PI_or (pi_list (tg := tg) (p X hX)) (pi_tup (p X hX))) (pi_str (p X hX))
    rw [F.hK X hX] at h
    exact h
  · cases m with
    | stk => exact False.elim po
    | exn e => exact .inl (.inl (f H0 σ S H _ hh po))
    | ok d =>
      cases d with
      | lst xs =>
        refine .inl (.inl (f H0 σ S H _ hh fun S1 H1 g v r => ?_))
        cases r with
        | lst h r => exact ⟨_, rfl, ⟨_, SqL.of (g.sub _ _ h)⟩, po S1 H1 g _ (it_list (SqL.of h) r)⟩
      | scr xs =>
        refine .inl (.inl (f H0 σ S H _ hh fun S1 H1 g v r => ?_))
        cases r with
        | scr h => exact ⟨_, rfl, ⟨_, ex_l g.sub h⟩, po S1 H1 g _ (it_list h reps_ints)⟩
      | tup xs =>
        refine .inl (.inr (f H0 σ S H _ hh fun S1 H1 g v r => ?_))
        cases r with
        | tup h r => exact ⟨_, rfl, ⟨_, SqT.of (g.sub _ _ h)⟩, po S1 H1 g _ (it_tup (SqT.of h) r)⟩
      | str x =>
        refine .inr (f H0 σ S H _ hh fun S1 H1 g v r => ?_)
        cases r
        exact ⟨x, rfl, po S1 H1 g _ it_str⟩
      | _ => exact False.elim po
def rangeD (lo : Int) (n : Nat) : List D := (List.range n).map fun (i : Nat) => D.int (lo + (i : Int))
theorem it_range {lo : Int} {n : Nat} : ItSem G (Itr lo n) S (rangeD lo n) := fun S' H' e1 e2 => by
  refine ⟨by show n ≤ (rangeD lo n).length; unfold rangeD; rw [List.length_map, List.length_range]; exact Nat.le_refl _, fun i d hd => ?_⟩
  unfold rangeD at hd
  rw [List.getElem?_map] at hd
  by_cases hi : i < n
  · rw [List.getElem?_range hi] at hd
    cases hd
    refine ⟨hi, fun x H'' y => ?_⟩
    obtain ⟨rfl, rfl⟩ := y
    exact ⟨S', Grow.refl e2, .int _⟩
  · rw [List.getElem?_eq_none (by rw [List.length_range]; omega)] at hd
    cases hd
def pyRange1 : List D → M (List D)
  | [.int j] => if -(2 ^ 62) ≤ j ∧ j < 2 ^ 62 then .ok (rangeD 0 j.toNat) else .stk
  | _ => .stk
def pyRange2 : List D → M (List D)
  | [.int i, .int j] => if -(2 ^ 62) ≤ i ∧ i < 2 ^ 62 ∧ -(2 ^ 62) ≤ j ∧ j < 2 ^ 62 then .ok (rangeD i (j - i).toNat) else .stk
  | _ => .stk
theorem im_range1 {p : Pos} {ml : M (List D)} (hg : F.kd.lookup ("range" : Str) = some NameKind.globalImplicit) (hm : F.G.mg "range" = none) (ha : AM F [a] Γ ml) (hs : ∀ X, F.Xs X → starEach [a] X.env = [(false, eval a X.env)] := by intros; rfl) :
    IM F tg (.Call (.Name "range" p) [a] [] pos) Γ (b1 pyRange1 ml) := by
  obtain ⟨t, q, f⟩ := ha
  refine ⟨iRng1 t, fun X hX => pi_range1 (F.gl X hX hg) (by rw [(F.hX X hX).2.2.2.1]; exact hm) (q X hX) (hs X hX), fun H0 σ S H R hh po => ?_⟩
  refine f H0 σ S H _ hh ((Po.bind po).imp fun ds S1 H1 g k vs r => ?_)
  match ds, r, k with
  | [.int j], r, k =>
    obtain ⟨v, e, h⟩ := reps1 r
    subst e
    cases h
    obtain ⟨hj, k⟩ := Po.gate (m := M.ok (rangeD 0 j.toNat)) k
    exact ⟨j, rfl, hj.1, hj.2, k.ok g.sub _ it_range⟩
theorem im_range2 {p : Pos} {ml : M (List D)} (hg : F.kd.lookup ("range" : Str) = some NameKind.globalImplicit) (hm : F.G.mg "range" = none) (ha : AM F [a, b] Γ ml) (hs : ∀ X, F.Xs X → starEach [a, b] X.env = [(false, eval a X.env), (false, eval b X.env)] := by intros; rfl) (hs2 : ∀ X, F.Xs X → starEach [b] X.env = [(false, eval b X.env)] := by intros; rfl) :
    IM F tg (.Call (.Name "range" p) [a, b] [] pos) Γ (b1 pyRange2 ml) := by
  obtain ⟨t, q, f⟩ := ha
  refine ⟨iRng2 t, fun X hX => pi_range2 (F.gl X hX hg) (by rw [(F.hX X hX).2.2.2.1]; exact hm) (q X hX) (hs X hX) (hs2 X hX), fun H0 σ S H R hh po => ?_⟩
  refine f H0 σ S H _ hh ((Po.bind po).imp fun ds S1 H1 g k vs r => ?_)
  match ds, r, k with
  | [.int i, .int j], r, k =>
    obtain ⟨v, w, e, h, h2⟩ := reps2 r
    subst e
    cases h; cases h2
    obtain ⟨hj, k⟩ := Po.gate (m := M.ok (rangeD i (j - i).toNat)) k
    exact ⟨i, j, rfl, hj, k.ok g.sub _ it_range⟩

/-! ### targets that are tuples -/
def TgsM (F : Fm) (tgs : List Expr) (f : List D → Gam → Option Gam) : Prop := ∃ g, (∀ X, F.Xs X → PGs X tgs g) ∧ ∀ H0 σ S H vs ds Γ Γ' (Q : L2.St → Hp → Prop), Holds F.G H0 σ S H Γ → Reps F.G S vs ds → f ds Γ = some Γ' → (∀ σ', Holds F.G H0 σ' S H Γ' → σ'.length = σ.length → (∀ i : Nat, F.L[i]? ≠ some true → σ'[i]? = σ[i]?) → Q σ' H) → g vs σ H Q
def tgNil (ds : List D) (Γ : Gam) : Option Gam := match ds with
  | [] => some Γ
  | _ => none
def tgCons (f : D → Gam → Option Gam) (g : List D → Gam → Option Gam) (ds : List D) (Γ : Gam) : Option Gam := match ds with
  | [] => none
  | d :: r => (f d Γ).bind (g r)
def unD : D → Option (List D)
  | .tup ds => some ds
  | .lst ds => some ds
  | _ => none
def tgTup (g : List D → Gam → Option Gam) (d : D) (Γ : Gam) : Option Gam := match unD d with
  | some ds => g ds Γ
  | none => none
theorem tgTup_at {g : List D → Gam → Option Gam} {d : D} {ds : List D} {Γ : Gam} (h : unD d = some ds) : tgTup g d Γ = g ds Γ := by
  unfold tgTup
  rw [h]
theorem tgs_nil : TgsM F [] tgNil := by
  refine ⟨gNil, fun X _ => pgs_nil, fun H0 σ S H vs ds Γ Γ' Q hh r e q => ?_⟩
  cases r with
  | nil => cases e; exact ⟨rfl, q σ hh rfl fun _ _ => rfl⟩
  | cons _ _ => cases e
theorem tgs_cons {e : Expr} {es : List Expr} {f : D → Gam → Option Gam} {g : List D → Gam → Option Gam} (h : TgM F e f) (k : TgsM F es g) (hs : ∀ X, F.Xs X → (assignEach (e :: es) X.env).map (·.2) = assign e X.env :: (assignEach es X.env).map (·.2) := by intros; rfl) : TgsM F (e :: es) (tgCons f g) := by
  obtain ⟨t, p, ft⟩ := h
  obtain ⟨u, q, fu⟩ := k
  refine ⟨gCons t u, fun X hX => pgs_cons (p X hX) (q X hX) (hs X hX), fun H0 σ S H vs ds Γ Γ' Q hh r e qq => ?_⟩
  cases r with
  | nil => cases e
  | @cons v vs d ds rv rs =>
    have e : (f d Γ).bind (g ds) = some Γ' := e
    cases z : f d Γ with
    | none => rw [z] at e; cases e
    | some Γ1 =>
      rw [z] at e
      refine ⟨v, vs, rfl, ft H0 σ S H v d Γ Γ1 _ hh rv z fun σ1 h1 l1 k1 => ?_⟩
      exact fu H0 σ1 S H vs ds Γ1 Γ' Q h1 rs e fun σ2 h2 l2 k2 => qq σ2 h2 (l2.trans l1) fun i hi => (k2 i hi).trans (k1 i hi)
theorem tg_tup {es : List Expr} {k : Nat} {g : List D → Gam → Option Gam} (n : Nat) (h : TgsM F es g) (hcm : F.cm = true) (hl : ∀ ds Γ, g ds Γ ≠ none → ds.length = n) (hn : ∀ X, F.Xs X → (assignEach es X.env).length = n := by intros; rfl) (hst : ∀ X, F.Xs X → (assignEach es X.env).findIdx? (·.1) = none := by intros; rfl) : TgM F (.Tuple es k pos) (tgTup g) := by
  obtain ⟨t, p, f⟩ := h
  refine ⟨fun v σ H Q => gTup F.G.K n t v σ H Q ∨ gLst F.G.K n t v σ H Q, fun X hX => ?_, fun H0 σ S H v d Γ Γ' Q hh r e q => ?_⟩
  · have h := pg_tup (pos := pos) (k := k) (F.hc hcm X hX) (p X hX) (hn X hX) (hst X hX)
    rw [F.hK X hX] at h
    have h' := pg_lst (pos := pos) (k := k) (F.hc hcm X hX) (p X hX) (hn X hX) (hst X hX)
    rw [F.hK X hX] at h'
    exact ⟨fun pins s σ H v u Q I r hw => hw.elim (h.run pins s σ H v u Q I r) (h'.run pins s σ H v u Q I r)⟩
  · cases r with
    | tup h r =>
      rename_i ds
      have e : g ds Γ = some Γ' := e
      exact .inl ⟨_, _, rfl, SqT.of (hh.ex _ _ h), by rw [r.length]; exact hl ds Γ (by rw [e]; exact fun z => by cases z), f H0 σ S H _ ds Γ Γ' Q hh r e q⟩
    | lst h r =>
      rename_i ds
      have e : g ds Γ = some Γ' := e
      exact .inr ⟨_, _, rfl, SqL.of (hh.ex _ _ h), by rw [r.length]; exact hl ds Γ (by rw [e]; exact fun z => by cases z), f H0 σ S H _ ds Γ Γ' Q hh r e q⟩
    | _ => cases e
theorem tgc_len {f : D → Gam → Option Gam} {g : List D → Gam → Option Gam} {n : Nat} (h : ∀ ds Γ, g ds Γ ≠ none → ds.length = n) : ∀ ds Γ, tgCons f g ds Γ ≠ none → ds.length = n + 1
  | [], _, z => absurd rfl z
  | d :: ds, Γ, z => by
    have z : (f d Γ).bind (g ds) ≠ none := z
    cases q : f d Γ with
    | none => rw [q] at z; exact absurd rfl z
    | some Γ1 => rw [q] at z; exact congrArg (· + 1) (h ds Γ1 z)
theorem tgn_len : ∀ ds Γ, tgNil ds Γ ≠ none → ds.length = 0
  | [], _, _ => rfl
  | _ :: _, _, z => absurd rfl z
/-- target = e, the target not a name -/
theorem bm_asgT {X S : Type} {fx : X → Gam} {fs : S → Gam} {x0 : X} {tf : D → Gam → Option Gam} {rest : List Stmt} {k : D → Ctl X S} (he : EM F e Γ m) (ht : TgM F tg tf) (w : Weak Γ (fx x0))
    (hr : ∀ d, (∃ Γ', tf d Γ = some Γ' ∧ BM F rest Γ' ((k d).out fx fs)) ∨ k d = .stk) (hs : ∀ X, F.Xs X → swapsWithSole [tg] e pos.line X.env = pure false := by intros; rfl) (hw : ∀ X, F.Xs X → swappedStores [tg] e X.env = pure none := by intros; rfl)
    (h1 : ∀ X, F.Xs X → (assignEach [tg] X.env).map (·.2) = [assign tg X.env] := by intros; rfl) : BM F (.Assign [tg] e pos :: rest) Γ ((m.bindC x0 k).out fx fs) := by
  obtain ⟨t, p, q⟩ := he
  obtain ⟨g, pg, eg⟩ := ht
  refine bm_cons (fun X hX => ps_asg (p X hX) (pg X hX) (hs X hX) (hw X hX) (h1 X hX)) fun S0 H0 Dn σ S H gr hh po => ?_
  refine q H0 σ S H _ hh ((opo_bind gr hh w po).imp fun d S1 H1 _ ⟨g1, h1, p1⟩ v r => ?_)
  rcases hr d with ⟨Γ', e', hb⟩ | z
  · exact eg H0 σ S1 H1 v d Γ Γ' _ h1 r e' fun σ' h2 _ _ => hb.c S0 H0 Dn σ' S1 H1 g1 h2 p1
  · rw [z] at p1
    exact False.elim p1

/-! ### own lists: made, grown, given away, looked at -/
theorem Holds.setOwn {H0 : Hp} {σ : L2.St} {S H S' H' : Hp} {i : Nat} {p : Addr} {d : D} (h : Holds G H0 σ S H Γ) (g : Grow S H S' H') (hp : S' p = none) (hn : H p = none) (o : OwnAt G H0 S' H' p d) : Holds G H0 (σ.set i (some (.ref p))) S' H' (Γ.set i (Sl.own d)) := by
  have h2 := h.grow g
  have old : ∀ {j : Nat} {e : D} {q : Addr}, Γ[j]? = some (Sl.own e) → σ[j]? = some (some (.ref q)) → q ≠ p := fun {j e q} a b z => by
    obtain ⟨q', b', _, _, o'⟩ := h.own j e a
    rw [b] at b'
    cases b'
    subst z
    exact o'.there hn
  refine ⟨h2.ex, h2.e0, by simpa using h2.len, fun j e q => ?_, fun j e q => ?_, fun j k a b r q1 q2 q3 q4 => ?_, fun j a q => by obtain ⟨n, q⟩ := set_ref q (fun _ z => by cases z); rw [List.getElem?_set_ne n]; exact h2.ref j a q⟩
  · by_cases z : i = j
    · subst z
      by_cases hl : i < Γ.length
      · rw [List.getElem?_set_self hl] at q; cases q
      · rw [List.getElem?_eq_none (by simpa using hl)] at q; cases q
    · rw [List.getElem?_set_ne z] at q ⊢
      exact h2.val j e q
  · by_cases z : i = j
    · subst z
      by_cases hl : i < Γ.length
      · rw [List.getElem?_set_self hl] at q
        cases q
        exact ⟨p, List.getElem?_set_self (Nat.lt_of_lt_of_le hl h.len), hp, h.e0.free hn, o⟩
      · rw [List.getElem?_eq_none (by simpa using hl)] at q; cases q
    · rw [List.getElem?_set_ne z] at q ⊢
      exact h2.own j e q
  · by_cases z1 : i = j
    · by_cases z2 : i = k
      · exact z1.symm.trans z2
      · subst z1
        rw [List.getElem?_set_ne z2] at q2 q4
        have hl : i < σ.length := by
          by_cases hl : i < σ.length
          · exact hl
          · rw [List.getElem?_eq_none (by simpa using hl)] at q3; cases q3
        rw [List.getElem?_set_self hl] at q3
        cases q3
        exact absurd rfl (old q2 q4)
    · by_cases z2 : i = k
      · subst z2
        rw [List.getElem?_set_ne z1] at q1 q3
        have hl : i < σ.length := by
          by_cases hl : i < σ.length
          · exact hl
          · rw [List.getElem?_eq_none (by simpa using hl)] at q4; cases q4
        rw [List.getElem?_set_self hl] at q4
        cases q4
        exact absurd rfl (old q1 q3)
      · rw [List.getElem?_set_ne z1] at q1 q3
        rw [List.getElem?_set_ne z2] at q2 q4
        exact h2.dis j k a b r q1 q2 q3 q4
/-- an expression whose value is a new object that nobody else knows -/
def EvF (F : Fm) (te : TE) (Γ : Gam) (m : M D) : Prop := ∀ H0 σ S H Q, Holds F.G H0 σ S H Γ → Po F.G (WE F.W σ) S H (fun d S' H' => ∀ p, S' p = none → H p = none → OwnAt F.G H0 S' H' p d → Q (.ref p) H') m → te σ H Q
def FE (F : Fm) (e : Expr) (Γ : Gam) (m : M D) : Prop := ∃ te, (∀ X, F.Xs X → PE X e te) ∧ EvF F te Γ m
theorem fe_lst {ml : M (List D)} (h : AM F es Γ ml) : FE F (.List es pos) Γ (b1 mkLst ml) := by
  obtain ⟨t, p, f⟩ := h
  refine ⟨tLst t, fun X hX => pe_lst (p X hX), fun H0 σ S H Q hh po => ?_⟩
  refine f H0 σ S H _ hh (Po.bind po |>.imp fun ds S1 H1 g1 k vs r => ?_)
  obtain ⟨hl, k⟩ := Po.gate (m := M.ok (D.lst ds)) k
  refine ⟨by rw [r.length]; exact hl, fun q hq => ?_⟩
  exact k S1 _ (Grow.newOwn g1.sub hq) q (sub_none g1.sub hq) (g1.h.free hq) ⟨vs, upd_same, r⟩
theorem fe_dict0 : FE F (.Dict [] [] pos) Γ (.ok (.dct [])) := by
  refine ⟨tDNewT, fun X hX => pe_dnewT, fun H0 σ S H Q hh po => fun q hq => ?_⟩
  exact po S _ (Grow.newOwn hh.ex hq) q (sub_none hh.ex hq) hq ⟨[], upd_same, rfl, .nil⟩
theorem fe_dict0k : FE F (.Dict [] [] pos) Γ (.ok (.dks [])) := by
  refine ⟨tDNewK, fun X hX => pe_dnewK, fun H0 σ S H Q hh po => fun q hq => ?_⟩
  exact po S _ (Grow.newOwn hh.ex hq) q (sub_none hh.ex hq) hq ⟨[], upd_same, rfl, .nil⟩
def GF (F : Fm) (st : Stmt) (i : Nat) (Γ : Gam) (m : M D) : Prop := ∃ te, (∀ X, F.Xs X → PS X st (tAsg te (gName i))) ∧ EvF F te Γ m
theorem gf_set (i : Nat) {x : Str} {pos' : Pos} (hi : F.N[i]? = some x) (hl : F.L[i]? = some true) (he : FE F e Γ m) (hs : ∀ X, F.Xs X → swapsWith e (some (.Name x pos')) pos.line X.env = pure false := by intros; rfl) : GF F (.Assign [.Name x pos'] e pos) i Γ m := by
  obtain ⟨t, p, q⟩ := he
  refine ⟨t, fun X hX => ?_, q⟩
  have h := F.loc X hX i x hl hi
  have hn := F.hN X hX
  exact ps_set (by rw [hn]; exact F.nd) (by rw [hn]; exact hi) h.1 (p X hX) (hs X hX) h.2
theorem bm_asgO {X S : Type} {fx : X → Gam} {fs : S → Gam} {x0 : X} {st : Stmt} {rest : List Stmt} (i : Nat) {k : D → Ctl X S} (h : GF F st i Γ m) (w : Weak Γ (fx x0)) (hr : ∀ d, BM F rest (Γ.set i (Sl.own d)) ((k d).out fx fs)) : BM F (st :: rest) Γ ((m.bindC x0 k).out fx fs) := by
  obtain ⟨t, p, q⟩ := h
  refine bm_cons p fun S0 H0 Dn σ S H g hh po => ?_
  have pb := opo_bind g hh w po
  refine q H0 σ S H _ hh (pb.imp fun d S1 H1 gg ⟨g1, _, p1⟩ a h1 h2 o => ?_)
  exact (hr d).c S0 H0 Dn _ S1 H1 g1 (hh.setOwn gg h1 h2 o) p1
/-- from here on it is nobody's own -/
theorem bm_give {sts : List Stmt} {o : Out} (i : Nat) {d : D} (hi : Γ[i]? = some (Sl.own d)) (h : BM F sts (Γ.set i (Sl.val d)) o) : BM F sts Γ o := by
  refine ⟨cB F sts, fun X hX => cB_ok X hX, fun S0 H0 Dn σ S H g hh po => ?_⟩
  obtain ⟨p, hp, hs, h0, oa⟩ := hh.own i d hi
  have hl : i < Γ.length := (List.getElem?_eq_some_iff.mp hi).1
  have key : ∀ S1, Ex S S1 → Ex S1 H → (∀ q, H0 q ≠ none → S q = none → S1 q = none) → Rep F.G S1 (.ref p) d → (∀ j e q, Γ[j]? = some (Sl.own e) → j ≠ i → σ[j]? = some (some (.ref q)) → S1 q = none ∧ OwnAt F.G H0 S1 H q e) → cB F sts Dn σ H := by
    intro S1 e1 e2 e3 r ow
    refine h.c S0 H0 Dn σ S1 H ⟨g.s.trans e1, g.h, e2, fun q a b => e3 q a.ne (g.sep q a b)⟩ ?_ po
    refine ⟨e2, hh.e0, by simpa using hh.len, fun j e q => ?_, fun j e q => ?_, fun j k a b r q1 q2 q3 q4 => ?_, fun j a q => ⟨(hh.ref j a (set_ref q (fun _ z => by cases z)).2).1, (hh.ref j a (set_ref q (fun _ z => by cases z)).2).2.mono e1⟩⟩
    · by_cases z : i = j
      · subst z
        rw [List.getElem?_set_self hl] at q
        cases q
        exact ⟨_, hp, r⟩
      · rw [List.getElem?_set_ne z] at q
        obtain ⟨v, hv, rv⟩ := hh.val j e q
        exact ⟨v, hv, rv.mono e1⟩
    · by_cases z : i = j
      · subst z
        rw [List.getElem?_set_self hl] at q
        cases q
      · rw [List.getElem?_set_ne z] at q
        obtain ⟨a, b, c, d', o'⟩ := hh.own j e q
        obtain ⟨c', o'⟩ := ow j e a q (Ne.symm z) b
        exact ⟨a, b, c', d', o'⟩
    · have n1 : i ≠ j := fun z => by subst z; rw [List.getElem?_set_self hl] at q1; cases q1
      have n2 : i ≠ k := fun z => by subst z; rw [List.getElem?_set_self hl] at q2; cases q2
      rw [List.getElem?_set_ne n1] at q1
      rw [List.getElem?_set_ne n2] at q2
      exact hh.dis j k a b r q1 q2 q3 q4
  have others : ∀ (S1 : Hp), Ex S S1 → (∀ q, S q = none → q ≠ p → (∀ b, H q = some (.own b) → b ≠ p) → S1 q = none) → ∀ (j : Nat) e q, Γ[j]? = some (Sl.own e) → j ≠ i → σ[j]? = some (some (.ref q)) → S1 q = none ∧ OwnAt F.G H0 S1 H q e := by
    intro S1 e1 hn j e q hj ne hσ
    obtain ⟨q', b', c, _, o'⟩ := hh.own j e hj
    rw [hσ] at b'
    cases b'
    have nq : q ≠ p := fun z => by subst z; exact ne (hh.dis j i e d q hj hi hσ hp)
    have nown : ∀ b, H q = some (.own b) → b ≠ p := fun b hb => by
      cases e with
      | lst ds => obtain ⟨_, e, _⟩ := o'; rw [e] at hb; cases hb
      | dct ds => obtain ⟨_, e, _⟩ := o'; rw [e] at hb; cases hb
      | dks ds => obtain ⟨_, e, _⟩ := o'; rw [e] at hb; cases hb
      | obj c fs => obtain ⟨_, _, e, _⟩ := o'; rw [e] at hb; cases hb
      | slf a0 c fs => obtain ⟨_, _, _, e, _⟩ := o'; rw [e] at hb; cases hb
      | _ => exact False.elim o'
    refine ⟨hn q c nq nown, ?_⟩
    cases e with
    | lst ds => obtain ⟨vs, e, r⟩ := o'; exact ⟨vs, e, r.mono e1⟩
    | dct ds => obtain ⟨vs, e, n, r⟩ := o'; exact ⟨vs, e, n, r.mono e1⟩
    | dks ds => obtain ⟨vs, e, n, r⟩ := o'; exact ⟨vs, e, n, r.mono e1⟩
    | obj c fs =>
      obtain ⟨dx, vs, e, e2, e3, e4, n, r⟩ := o'
      refine ⟨dx, vs, e, e2, hn dx e3 (fun z => ?_) (fun b hb => by rw [e2] at hb; cases hb; exact nq), e4, n, r.mono e1⟩
      subst z
      cases d with
      | lst ds => obtain ⟨_, z, _⟩ := oa; rw [e2] at z; cases z
      | dct ds => obtain ⟨_, z, _⟩ := oa; rw [e2] at z; cases z
      | dks ds => obtain ⟨_, z, _⟩ := oa; rw [e2] at z; cases z
      | obj c fs => obtain ⟨_, _, z, _⟩ := oa; rw [e2] at z; cases z
      | slf a0 c fs => obtain ⟨_, _, _, z, _⟩ := oa; rw [e2] at z; cases z
      | _ => exact False.elim oa
    | slf a0 c fs =>
      obtain ⟨hp0, dx, vs, e, e2, e3, e4, n, r⟩ := o'
      refine ⟨hp0, dx, vs, e, e2, hn dx e3 (fun z => ?_) (fun b hb => by rw [e2] at hb; cases hb; exact nq), e4, n, r.mono e1⟩
      subst z
      cases d with
      | lst ds => obtain ⟨_, z, _⟩ := oa; rw [e2] at z; cases z
      | dct ds => obtain ⟨_, z, _⟩ := oa; rw [e2] at z; cases z
      | dks ds => obtain ⟨_, z, _⟩ := oa; rw [e2] at z; cases z
      | obj c fs => obtain ⟨_, _, z, _⟩ := oa; rw [e2] at z; cases z
      | slf a0 c fs => obtain ⟨_, _, _, z, _⟩ := oa; rw [e2] at z; cases z
      | _ => exact False.elim oa
    | _ => exact False.elim o'
  have one : ∀ o, H p = some o → Rep F.G (upd S p o) (.ref p) d → cB F sts Dn σ H := fun o ho r => by
    refine key (upd S p o) (ex_upd hs) (fun a u q => ?_) (fun q a b => ?_) r (others _ (ex_upd hs) fun q a b _ => by rw [upd_ne b]; exact a)
    · by_cases z : a = p
      · subst z; rw [upd_same] at q; rw [ho]; exact q
      · rw [upd_ne z] at q; exact hh.ex a u q
    · rw [upd_ne (fun z => by subst z; exact a h0)]; exact b
  cases d with
  | lst ds => obtain ⟨vs, e, r⟩ := oa; exact one _ e (.lst upd_same (r.mono (ex_upd hs)))
  | dct ds => obtain ⟨vs, e, n, r⟩ := oa; exact one _ e (.dct (.inl upd_same) n (r.mono (ex_upd hs)))
  | dks ds => obtain ⟨vs, e, n, r⟩ := oa; exact one _ e (.dks (.inl upd_same) n (r.mono (ex_upd hs)))
  | obj c fs =>
    obtain ⟨dx, vs, e, e2, e3, e4, n, r⟩ := oa
    have nd : dx ≠ p := fun z => by subst z; rw [e2] at e; cases e
    have x1 : Ex S (upd S dx (.own p)) := ex_upd e3
    have hs1 : (upd S dx (.own p)) p = none := by rw [upd_ne (Ne.symm nd)]; exact hs
    have x2 : Ex S (upd (upd S dx (.own p)) p (.ins (F.G.ca c) dx vs)) := x1.trans (ex_upd hs1)
    refine key _ x2 (fun a u q => ?_) (fun q a b => ?_) (.obj upd_same (by rw [upd_ne nd, upd_same]) n (r.mono x2)) (others _ x2 fun q a b cc => ?_)
    · by_cases z : a = p
      · subst z; rw [upd_same] at q; rw [e]; exact q
      · rw [upd_ne z] at q
        by_cases z2 : a = dx
        · subst z2; rw [upd_same] at q; rw [e2]; exact q
        · rw [upd_ne z2] at q; exact hh.ex a u q
    · rw [upd_ne (fun z => by subst z; exact a h0)]
      by_cases z2 : q = dx
      · subst z2
        exact absurd e4 a
      · rw [upd_ne z2]; exact b
    · rw [upd_ne b]
      by_cases z2 : q = dx
      · subst z2; exact absurd rfl (cc p e2)
      · rw [upd_ne z2]; exact a
  | slf a0 c fs =>
    obtain ⟨hp0, dx, vs, e, e2, e3, e4, n, r⟩ := oa
    subst hp0
    have nd : dx ≠ p := fun z => by subst z; rw [e2] at e; cases e
    have x1 : Ex S (upd S dx (.own p)) := ex_upd e3
    have hs1 : (upd S dx (.own p)) p = none := by rw [upd_ne (Ne.symm nd)]; exact hs
    have x2 : Ex S (upd (upd S dx (.own p)) p (.ins (F.G.ca c) dx vs)) := x1.trans (ex_upd hs1)
    refine key _ x2 (fun a u q => ?_) (fun q a b => ?_) (.slf upd_same (by rw [upd_ne nd, upd_same]) n (r.mono x2)) (others _ x2 fun q a b cc => ?_)
    · by_cases z : a = p
      · subst z; rw [upd_same] at q; rw [e]; exact q
      · rw [upd_ne z] at q
        by_cases z2 : a = dx
        · subst z2; rw [upd_same] at q; rw [e2]; exact q
        · rw [upd_ne z2] at q; exact hh.ex a u q
    · rw [upd_ne (fun z => by subst z; exact a h0)]
      by_cases z2 : q = dx
      · subst z2
        exact absurd e4 a
      · rw [upd_ne z2]; exact b
    · rw [upd_ne b]
      by_cases z2 : q = dx
      · subst z2; exact absurd rfl (cc p e2)
      · rw [upd_ne z2]; exact a
  | _ => exact False.elim oa
end
end Mir
namespace Mir
open PySem PySem.Spec L2

section
variable {F : Fm} {Γ : Gam} {X S : Type} {fx : X → Gam} {fs : S → Gam} {x0 : X} {a b c e : Expr} {es : List Expr} {ma mb mc m mk mv : M D} {mt : M Bool} {pos : Pos} {st : Stmt} {rest body : List Stmt} {G : GG}

/-! ### an own object changes -/
theorem Holds.ownUpd {H0 : Hp} {σ : L2.St} {S H : Hp} {i : Nat} {p : Addr} {d d' : D} {o : HO} (h : Holds G H0 σ S H Γ) (hi : Γ[i]? = some (Sl.own d)) (hp : σ[i]? = some (some (.ref p))) (hs : S p = none) (h0 : H0 p = none)
    (hno : ∀ b, H p ≠ some (.own b)) (n : OwnAt G H0 S (upd H p o) p d') : Holds G H0 σ S (upd H p o) (Γ.set i (Sl.own d')) := by
  have hl : i < Γ.length := (List.getElem?_eq_some_iff.mp hi).1
  refine ⟨fun a u q => ?_, fun a u q => ?_, by simpa using h.len, fun j e q => ?_, fun j e q => ?_, fun j k a b r q1 q2 q3 q4 => ?_, fun j a q => h.ref j a (set_ref q (fun _ z => by cases z)).2⟩
  · rw [upd_ne (fun z => by subst z; rw [hs] at q; cases q)]; exact h.ex a u q
  · rw [upd_ne (fun z => by subst z; rw [h0] at q; cases q)]; exact h.e0 a u q
  · by_cases z : i = j
    · subst z; rw [List.getElem?_set_self hl] at q; cases q
    · rw [List.getElem?_set_ne z] at q
      exact h.val j e q
  · by_cases z : i = j
    · subst z
      rw [List.getElem?_set_self hl] at q
      cases q
      exact ⟨p, hp, hs, h0, n⟩
    · rw [List.getElem?_set_ne z] at q
      obtain ⟨r, a, b, c, o'⟩ := h.own j e q
      have ne : r ≠ p := fun y => by subst y; exact z (h.dis i j d e r hi q hp a)
      refine ⟨r, a, b, c, ?_⟩
      cases e with
      | lst ds => obtain ⟨vs, e, r⟩ := o'; exact ⟨vs, by rw [upd_ne ne]; exact e, r⟩
      | dct ds => obtain ⟨vs, e, n, r⟩ := o'; exact ⟨vs, by rw [upd_ne ne]; exact e, n, r⟩
      | dks ds => obtain ⟨vs, e, n, r⟩ := o'; exact ⟨vs, by rw [upd_ne ne]; exact e, n, r⟩
      | obj c fs =>
        obtain ⟨dx, vs, e, e2, e3, e4, n, r⟩ := o'
        exact ⟨dx, vs, by rw [upd_ne ne]; exact e, by rw [upd_ne (fun y => by subst y; exact hno _ e2)]; exact e2, e3, e4, n, r⟩
      | slf a0 c fs =>
        obtain ⟨hp, dx, vs, e, e2, e3, e4, n, r⟩ := o'
        exact ⟨hp, dx, vs, by rw [upd_ne ne]; exact e, by rw [upd_ne (fun y => by subst y; exact hno _ e2)]; exact e2, e3, e4, n, r⟩
      | _ => exact False.elim o'
  · have h1 : ∀ {j : Nat} {a : D}, (Γ.set i (Sl.own d'))[j]? = some (Sl.own a) → ∃ a', Γ[j]? = some (Sl.own a') := fun {j a} q => by
      by_cases z : i = j
      · subst z; exact ⟨d, hi⟩
      · rw [List.getElem?_set_ne z] at q; exact ⟨a, q⟩
    obtain ⟨a', q1⟩ := h1 q1
    obtain ⟨b', q2⟩ := h1 q2
    exact h.dis j k a' b' r q1 q2 q3 q4
theorem Grow.own {S0 H0 S H : Hp} {p : Addr} {o : HO} (g : Grow S0 H0 S H) (hs : S p = none) (h0 : H0 p = none) : Grow S0 H0 S (upd H p o) :=
  ⟨g.s, fun a u q => by rw [upd_ne (fun z => by subst z; rw [h0] at q; cases q)]; exact g.h a u q, fun a u q => by rw [upd_ne (fun z => by subst z; rw [hs] at q; cases q)]; exact g.sub a u q, g.sep⟩

def appM (d : D) (m : M D) : M D := match d with
  | .lst xs => m.bind fun y => if xs.length < sizeLine then .ok (.lst (xs ++ [y])) else .stk
  | _ => .stk
theorem pvar (i : Nat) {x : Str} {p : Pos} (hi : F.N[i]? = some x) (hv : F.V[i]? = some true) (Y : Cx) (hY : F.Xs Y) (hd : (x == ("__debug__" : Str)) = false := by decide) (hcd : (x == ("__classdict__" : Str)) = false := by decide) : PE Y (.Name x p) (tVar i) :=
  pe_var (by rw [F.hN Y hY]; exact hi) (F.vis Y hY i x hv hi) hd hcd
/-- x.append(e), x's list nobody else's -/
theorem bm_app (i : Nat) {ce : Expr} {d : D} {pos' : Pos} {k : D → Ctl X S} (hΓ : Γ[i]? = some (Sl.own d)) (he : EM F e Γ m) (w : Weak Γ (fx x0)) (hr : ∀ d', BM F rest (Γ.set i (Sl.own d')) ((k d').out fx fs))
    (hp : ∀ t, (∀ Y, F.Xs Y → PE Y e t) → ∀ Y, F.Xs Y → PE Y ce (tBM Y.K "list" rAppend (tVar i) (tCons t tNil)))
    (hs : ∀ X, F.Xs X → swapsWith ce none pos'.line X.env = pure false := by intros; rfl) :
    BM F (.Expr ce pos' :: rest) Γ (((appM d m).bindC x0 k).out fx fs) := by
  obtain ⟨t, q, f⟩ := he
  have hp : ∀ X, F.Xs X → PE X ce (tBM F.G.K "list" rAppend (tVar i) (tCons t tNil)) := fun X hX => by
    have h := hp t q X hX
    rw [F.hK X hX] at h
    exact h
  refine bm_cons (fun X hX => ps_expr (hp X hX) (hs X hX)) fun S0 H0 Dn σ S H g hh po => ?_
  obtain ⟨r, hσ, hS, h0, oa⟩ := hh.own i d hΓ
  cases d with
  | lst xs =>
    obtain ⟨vs, hH, rs⟩ := oa
    refine ⟨.ref r, hσ, .inl ⟨rfl, _, SqL.of hH⟩, ?_⟩
    have pb := opo_bind g hh w po
    refine f H0 σ S H _ hh ((Po.bind pb).imp fun y S1 H1 g1 q1 v rv => ?_)
    obtain ⟨hl, q1⟩ := Po.gate (m := M.ok (D.lst (xs ++ [y]))) q1
    obtain ⟨g2, h2, p2⟩ := q1.ok g1.sub
    have hH1 := g1.h _ _ hH
    have hS1 := g1.sep r ⟨_, hH, fun _ z => by cases z⟩ hS
    refine ⟨r, vs, v, rfl, rfl, hH1, by rw [rs.length]; exact hl, ?_⟩
    exact (hr _).c S0 H0 Dn σ S1 _ (g2.own hS1 h0) (h2.ownUpd (d' := .lst (xs ++ [y])) hΓ hσ hS1 h0 (fun b z => by rw [hH1] at z; cases z) ⟨_, upd_same, (rs.mono g1.s).append (.cons rv .nil)⟩) p2
  | _ => exact False.elim po
def putD {κ : Type} [DecidableEq κ] (kvs : List (κ × D)) (k : κ) (v : D) : List (κ × D) :=
  if (kvs.any fun kv => decide (kv.1 = k)) = true then kvs.map (fun kv => if kv.1 = k then (kv.1, v) else kv) else kvs ++ [(k, v)]
theorem put_rep {S : Hp} {κ : Type} [DecidableEq κ] {k : κ} {v : V} {d : D} (h : Rep G S v d) : ∀ {ks : List (κ × V)} {kvs : List (κ × D)}, ks.map (·.1) = kvs.map (·.1) → Reps G S (ks.map (·.2)) (kvs.map (·.2)) →
    (putK ks k v).map (·.1) = (putD kvs k d).map (·.1) ∧ Reps G S ((putK ks k v).map (·.2)) ((putD kvs k d).map (·.2)) := by
  intro ks kvs n r
  have ha : (ks.any fun kv => decide (kv.1 = k)) = (kvs.any fun kv => decide (kv.1 = k)) := by
    have : ∀ {ks : List (κ × V)} {kvs : List (κ × D)}, ks.map (·.1) = kvs.map (·.1) → (ks.any fun kv => decide (kv.1 = k)) = (kvs.any fun kv => decide (kv.1 = k)) := by
      intro ks
      induction ks with
      | nil => intro kvs n; cases kvs with
        | nil => rfl
        | cons _ _ => cases n
      | cons a ks ih => intro kvs n; cases kvs with
        | nil => cases n
        | cons b kvs =>
          obtain ⟨n1, n2⟩ := List.cons.inj n
          rw [List.any_cons, List.any_cons, ih n2, show a.1 = b.1 from n1]
    exact this n
  unfold putK putD
  rw [ha]
  split
  · have : ∀ {ks : List (κ × V)} {kvs : List (κ × D)}, ks.map (·.1) = kvs.map (·.1) → Reps G S (ks.map (·.2)) (kvs.map (·.2)) →
        (ks.map (fun kv => if kv.1 = k then (kv.1, v) else kv)).map (·.1) = (kvs.map (fun kv => if kv.1 = k then (kv.1, d) else kv)).map (·.1) ∧ Reps G S ((ks.map (fun kv => if kv.1 = k then (kv.1, v) else kv)).map (·.2)) ((kvs.map (fun kv => if kv.1 = k then (kv.1, d) else kv)).map (·.2)) := by
      intro ks
      induction ks with
      | nil => intro kvs n r; cases kvs with
        | nil => exact ⟨rfl, .nil⟩
        | cons _ _ => cases n
      | cons a ks ih => intro kvs n r; cases kvs with
        | nil => cases n
        | cons b kvs =>
          obtain ⟨n1, n2⟩ := List.cons.inj n
          obtain ⟨a1, a2⟩ := a
          obtain ⟨b1, b2⟩ := b
          have n1 : a1 = b1 := n1
          subst n1
          cases r with
          | cons r1 r2 =>
            obtain ⟨i1, i2⟩ := ih n2 r2
            by_cases z : a1 = k
            · simp only [List.map_cons, z, if_true] at i1 i2 ⊢
              exact ⟨by rw [i1], .cons h i2⟩
            · simp only [List.map_cons, z, if_false] at i1 i2 ⊢
              exact ⟨by rw [i1], .cons r1 i2⟩
    exact this n r
  · rw [List.map_append, List.map_append, List.map_append, List.map_append, n]
    exact ⟨rfl, r.append (.cons h .nil)⟩
def setM (d : D) (mv mk : M D) : M D := match d with
  | .dct kvs => mv.bind fun v => mk.bind fun k => match k with
    | .tup ks => (ofOpt (keysOf ks)).bind fun k => if kvs.length < sizeLine then .ok (.dct (putD kvs k v)) else .stk
    | _ => .stk
  | .dks kvs => mv.bind fun v => mk.bind fun k => (ofOpt (keyOf k)).bind fun k => if kvs.length < sizeLine then .ok (.dks (putD kvs k v)) else .stk
  | .lst xs => mv.bind fun v => mk.bind fun k => match k with
    | .int i => (ofOpt (ixN xs.length i)).bind fun j => .ok (.lst (xs.set j v))
    | _ => .stk
  | _ => .stk
theorem PS_or {X : Cx} {e : Stmt} {t u : TS} (h : PS X e t) (k : PS X e u) : PS X e (fun D σ H => t D σ H ∨ u D σ H) :=
  ⟨fun pins s σ H D I q => q.elim (h.run pins s σ H D I) (k.run pins s σ H D I)⟩
theorem rep_key {S : Hp} {v : V} {d : D} {k : Key} (r : Rep G S v d) (h : keyOf d = some k) : v = kV k := by
  cases r <;> first | (cases h; rfl) | cases h
/-- x[k] = v, x's dict or list nobody else's -/
theorem bm_setitem (i : Nat) {x : Str} {d : D} {p p2 : Pos} {ki vi : Expr} {k : D → Ctl X S} (hi : F.N[i]? = some x) (hv : F.V[i]? = some true) (hΓ : Γ[i]? = some (Sl.own d)) (hvv : EM F vi Γ mv) (hk : EM F ki Γ mk) (w : Weak Γ (fx x0)) (hr : ∀ d', BM F rest (Γ.set i (Sl.own d')) ((k d').out fx fs))
    (hd : (x == ("__debug__" : Str)) = false := by decide) (hcd : (x == ("__classdict__" : Str)) = false := by decide)
    (hs : ∀ X, F.Xs X → swapsWith vi (some (.Subscript (.Name x p) ki p2)) pos.line X.env = pure false := by intros; rfl)
    (hs1 : ∀ X, F.Xs X → swapsWithSole [.Subscript (.Name x p) ki p2] vi pos.line X.env = pure false := by intros; rfl) (hw : ∀ X, F.Xs X → swappedStores [.Subscript (.Name x p) ki p2] vi X.env = pure none := by intros; rfl)
    (h1 : ∀ X, F.Xs X → (assignEach [.Subscript (.Name x p) ki p2] X.env).map (·.2) = [assign (.Subscript (.Name x p) ki p2) X.env] := by intros; rfl)
    (ha : ∀ X, F.Xs X → ∀ v, assign (.Subscript (.Name x p) ki p2) X.env v = (do
      let ov ← holding [v] (eval (.Name x p) X.env)
      let iv ← holding [v, ov] (eval ki X.env)
      standAt p2
      holding [v, ov, iv] (setItem ov iv v)
      release [v, ov, iv] []) := by intros; rfl) :
    BM F (.Assign [.Subscript (.Name x p) ki p2] vi pos :: rest) Γ (((setM d mv mk).bindC x0 k).out fx fs) := by
  obtain ⟨tv, pv', ev⟩ := hvv
  obtain ⟨tk, pk, ek⟩ := hk
  have hx : ∀ X, F.Xs X → PE X (.Name x p) (tVar i) := fun X hX => pe_var (by rw [F.hN X hX]; exact hi) (F.vis X hX i x hv hi) hd hcd
  refine bm_cons (t := fun D σ H => tAsg tv (gSub (tVar i) tk rSetL) D σ H ∨ sDPut (tVar i) tk tv D σ H) (fun X hX => PS_or (ps_asg (pv' X hX) (pg_sub (hx X hX) (pk X hX) set_list (ha X hX)) (hs1 X hX) (hw X hX) (h1 X hX)) (ps_dput (by have := F.hu X hX; omega) (hx X hX) (pk X hX) (pv' X hX) (hs X hX))) fun S0 H0 Dn σ S H g hh po => ?_
  obtain ⟨r, hσ, hS, h0, oa⟩ := hh.own i d hΓ
  have pb := opo_bind g hh w po
  cases d with
  | lst xs =>
    obtain ⟨vs, hH, rs⟩ := oa
    refine .inl (ev H0 σ S H _ hh ((Po.bind pb).imp fun y S1 H1 g1 q1 v rv => ⟨.ref r, hσ, ?_⟩))
    refine ek H0 σ S1 H1 _ (hh.grow g1) ((Po.bind q1).imp fun z S2 H2 g2 q2 u ru => ?_)
    have gg := g1.trans g2
    cases z with
    | int kk =>
      obtain ⟨j, hj, q2⟩ := Po.opt (o := ixN xs.length kk) q2
      obtain ⟨g3, h3, p3⟩ := Po.ok g2.sub q2
      cases ru
      have hH1 := gg.h _ _ hH
      have hS1 := gg.sep r ⟨_, hH, fun _ z => by cases z⟩ hS
      refine ⟨r, vs, kk, j, rfl, rfl, hH1, by rw [rs.length]; exact hj, ?_⟩
      exact (hr _).c S0 H0 Dn σ S2 _ (g3.own hS1 h0) (h3.ownUpd (d' := .lst (xs.set j y)) hΓ hσ hS1 h0 (fun b z => by rw [hH1] at z; cases z) ⟨_, upd_same, Reps.set (rv.mono g2.s) j (rs.mono gg.s)⟩) p3
    | _ => exact False.elim q2
  | dct kvs =>
    obtain ⟨ks, hH, n, rs⟩ := oa
    refine .inr (ev H0 σ S H _ hh ((Po.bind pb).imp fun y S1 H1 g1 q1 v rv => ⟨.ref r, hσ, ?_⟩))
    refine ek H0 σ S1 H1 _ (hh.grow g1) ((Po.bind q1).imp fun z S2 H2 g2 q2 u ru => ?_)
    have gg := g1.trans g2
    cases z with
    | tup zs =>
      obtain ⟨kk, hk, q2⟩ := Po.opt (o := keysOf zs) q2
      obtain ⟨hl, q2⟩ := Po.gate (m := M.ok (D.dct (putD kvs kk y))) q2
      obtain ⟨g3, h3, p3⟩ := Po.ok g2.sub q2
      have hH1 := gg.h _ _ hH
      have hS1 := gg.sep r ⟨_, hH, fun _ z => by cases z⟩ hS
      cases ru with
      | tup hz rz =>
        rw [reps_key rz hk] at hz
        have hlen : ks.length = kvs.length := by have := congrArg List.length n; simpa using this
        obtain ⟨n', r'⟩ := put_rep (k := kk) (rv.mono g2.s) n (rs.mono gg.s)
        refine ⟨r, _, rfl, DPut.t hH1 (g2.sub _ _ hz) (by rw [hlen]; exact hl), ?_⟩
        exact (hr _).c S0 H0 Dn σ S2 _ (g3.own hS1 h0) (h3.ownUpd (d' := .dct (putD kvs kk y)) hΓ hσ hS1 h0 (fun b z => by rw [hH1] at z; cases z) ⟨_, upd_same, n', r'⟩) p3
    | _ => exact False.elim q2
  | dks kvs =>
    obtain ⟨ks, hH, n, rs⟩ := oa
    refine .inr (ev H0 σ S H _ hh ((Po.bind pb).imp fun y S1 H1 g1 q1 v rv => ⟨.ref r, hσ, ?_⟩))
    refine ek H0 σ S1 H1 _ (hh.grow g1) ((Po.bind q1).imp fun z S2 H2 g2 q2 u ru => ?_)
    have gg := g1.trans g2
    obtain ⟨kk, hk, q2⟩ := Po.opt (o := keyOf z) q2
    obtain ⟨hl, q2⟩ := Po.gate (m := M.ok (D.dks (putD kvs kk y))) q2
    obtain ⟨g3, h3, p3⟩ := Po.ok g2.sub q2
    have hH1 := gg.h _ _ hH
    have hS1 := gg.sep r ⟨_, hH, fun _ z => by cases z⟩ hS
    have hlen : ks.length = kvs.length := by have := congrArg List.length n; simpa using this
    obtain ⟨n', r'⟩ := put_rep (k := kk) (rv.mono g2.s) n (rs.mono gg.s)
    have eu := rep_key ru hk
    subst eu
    refine ⟨r, _, rfl, DPut.k hH1 (by rw [hlen]; exact hl), ?_⟩
    exact (hr _).c S0 H0 Dn σ S2 _ (g3.own hS1 h0) (h3.ownUpd (d' := .dks (putD kvs kk y)) hΓ hσ hS1 h0 (fun b z => by rw [hH1] at z; cases z) ⟨_, upd_same, n', r'⟩) p3
  | _ => exact False.elim po

/-! ### a look at own objects: nothing but a flat answer is taken -/
def froz (Γ : Gam) : Gam := Γ.map fun s => match s with
  | .own d => .val d
  | s => s
theorem own_rep {H0 S H : Hp} {p : Addr} {d : D} (e : Ex S H) (h : OwnAt G H0 S H p d) : Rep G H (.ref p) d := by
  cases d with
  | lst ds => obtain ⟨vs, e1, r⟩ := h; exact .lst e1 (r.mono e)
  | dct ds => obtain ⟨vs, e1, n, r⟩ := h; exact .dct (.inl e1) n (r.mono e)
  | dks ds => obtain ⟨vs, e1, n, r⟩ := h; exact .dks (.inl e1) n (r.mono e)
  | obj c fs => obtain ⟨dx, vs, e1, e2, _, _, n, r⟩ := h; exact .obj e1 e2 n (r.mono e)
  | slf a c fs => obtain ⟨rfl, dx, vs, e1, e2, _, _, n, r⟩ := h; exact .slf e1 e2 n (r.mono e)
  | _ => exact False.elim h
theorem Holds.froz {H0 : Hp} {σ : L2.St} {S H : Hp} (h : Holds G H0 σ S H Γ) : Holds G H0 σ H H (froz Γ) := by
  refine ⟨Same.refl _, h.e0, by rw [Mir.froz, List.length_map]; exact h.len, fun i d q => ?_, fun i d q => ?_, fun i j d e p q => ?_, fun i a q => ?_⟩
  · unfold Mir.froz at q
    rw [List.getElem?_map] at q
    cases z : Γ[i]? with
    | none => rw [z] at q; cases q
    | some s =>
      rw [z] at q
      cases s with
      | unk => cases q
      | val d' => cases q; obtain ⟨v, a, r⟩ := h.val i _ z; exact ⟨v, a, r.mono h.ex⟩
      | own d' => cases q; obtain ⟨p, a, _, _, o⟩ := h.own i _ z; exact ⟨_, a, own_rep h.ex o⟩
      | ref a => cases q
  · unfold Mir.froz at q
    rw [List.getElem?_map] at q
    cases z : Γ[i]? with
    | none => rw [z] at q; cases q
    | some s => rw [z] at q; cases s <;> cases q
  · unfold Mir.froz at q
    rw [List.getElem?_map] at q
    cases z : Γ[i]? with
    | none => rw [z] at q; cases q
    | some s => rw [z] at q; cases s <;> cases q
  · unfold Mir.froz at q
    rw [List.getElem?_map] at q
    cases z : Γ[i]? with
    | none => rw [z] at q; cases q
    | some s =>
      rw [z] at q
      cases s with
      | ref b => exact ⟨(h.ref i a (z.trans q)).1, (h.ref i a (z.trans q)).2.mono h.ex⟩
      | _ => cases q
theorem Grow.look {S H S' H' : Hp} (e : Ex S H) (g : Grow H H S' H') : Grow S H S H' := ⟨Same.refl _, g.h, e.trans g.h, fun _ _ h => h⟩
def flatM : M D → M D
  | .ok d => if flatD d = true then .ok d else .stk
  | .exn e => if e.fs.isEmpty = true then .exn e else .stk
  | .stk => .stk
theorem rep_flat_any {S S' : Hp} {v : V} {d : D} (h : flatD d = true) (r : Rep G S v d) : Rep G S' v d := by
  cases r <;> first | exact absurd h Bool.false_ne_true | constructor
theorem em_look (he : EM F e (froz Γ) m) : EM F e Γ (flatM m) := by
  obtain ⟨t, p, f⟩ := he
  refine ⟨t, p, fun H0 σ S H Q hh po => f H0 σ H H _ hh.froz ?_⟩
  cases m with
  | stk => exact po
  | exn x =>
    obtain ⟨h, po⟩ := Po.gate (m := (M.exn x : M D)) po
    refine fun cls dd S' H' g r => po cls dd S H' (Grow.look hh.ex g) ⟨r.1, .inl ?_⟩
    have q0 : x.fs = [] := by
      cases q : x.fs with
      | nil => rfl
      | cons _ _ => rw [q] at h; cases h
    exact r.2.elim id fun z => absurd q0 z.1
  | ok d =>
    obtain ⟨h, po⟩ := Po.gate (m := M.ok d) po
    exact fun S' H' g v r => po S H' (Grow.look hh.ex g) v (rep_flat_any h r)
def nofs : M Bool → M Bool
  | .exn _ => .stk
  | m => m
theorem tm_look (he : TM F e (froz Γ) mt) : TM F e Γ (nofs mt) := by
  obtain ⟨t, p, f⟩ := he
  refine ⟨t, p, fun H0 σ S H Q hh po => f H0 σ H H _ hh.froz ?_⟩
  cases mt with
  | stk => exact po
  | exn x => exact False.elim po
  | ok d => exact fun S' H' g => po S H' (Grow.look hh.ex g)
end
end Mir
namespace Mir
open PySem PySem.Spec L2
open PyProof.Rows (envOfC)

theorem all_at {N : List Str} {V : List Bool} {p : Nat → Bool} {i : Nat} {x : Str} (h : ((List.range N.length).all fun i => !(V.getD i false) || p i) = true) (hV : V[i]? = some true) (hN : N[i]? = some x) : p i = true := by
  have hi : i < N.length := (List.getElem?_eq_some_iff.mp hN).1
  have := List.all_eq_true.mp h i (List.mem_range.mpr hi)
  rw [Bool.or_eq_true] at this
  rcases this with z | z
  · rw [List.getD_eq_getElem?_getD, hV] at z; cases z
  · exact z
def visL (N : List Str) (V : List Bool) (kd : List (Str × NameKind)) : Bool :=
  (List.range N.length).all fun i => !(V.getD i false) || match kd.lookup (N.getD i "") with
    | some .local => true | some .cell => true | _ => false
theorem visL_at {N : List Str} {V : List Bool} {kd : List (Str × NameKind)} {i : Nat} {x : Str} (h : visL N V kd = true) (hV : V[i]? = some true) (hN : N[i]? = some x) : kd.lookup x = some .local ∨ kd.lookup x = some .cell := by
  have q := all_at (p := fun i => match kd.lookup (N.getD i "") with | some .local => true | some .cell => true | _ => false) h hV hN
  have ex : N.getD i "" = x := by rw [List.getD_eq_getElem?_getD, hN]; rfl
  rw [ex] at q
  split at q
  · exact .inl (by assumption)
  · exact .inr (by assumption)
  · cases q
/-! ### a def -/
def mkF (G : GG) {st : Stmt} {N ps : List Str} (Sc : FnScope N ps (defScope st)) (V : List Bool) (kd : List (Str × NameKind)) (hv : visL N V kd = true) (hkd : (defScope st).names = kd) (k : Nat) (qual : Str) (f : Addr) (cdv : Value) (A : Around) (outer : List Env) (s : Shared) (H : Hp) (E : XK)
    (hr : Room k (A.deeper (envOfC qual (defScope st) s.heap.objs.size f cdv))) : Fm where
  G := G
  W := fun cls d _ H => E cls d H
  N := N
  V := V
  L := V
  kd := kd
  Xs := fun X => X = cxOf (L2.CX G.P G.w) G.P G.w G.K G.mg G.base N qual (defScope st) f cdv A outer s H E
  k := k
  cm := true
  top := true
  fr := false
  hX := by rintro X rfl; exact ⟨rfl, rfl, rfl, rfl, rfl, rfl⟩
  nd := Sc.nd
  hkd := by rintro X rfl; exact hkd
  hki := by rintro X rfl; exact Sc.kind
  vis := by
    rintro X rfl i x hV hn
    have h := visL_at hv hV hn
    rw [← hkd] at h
    exact h.elim .inl fun h => .inr (.inl h)
  loc := by
    rintro X rfl i x hV hn
    have h := visL_at hv hV hn
    rw [← hkd] at h
    exact ⟨h, .inl rfl⟩
  hc := by rintro _ X rfl; rfl
  hr := by rintro _ X rfl; exact hr
  hu := by rintro X rfl; exact hr.units
  tk := by rintro X rfl; exact takes_of rfl rfl rfl rfl
  po := by rintro X rfl; exact passes_of (K := fun e s' => L2.CX G.P G.w outer H s E e s') rfl
  ht := by rintro _ X rfl; exact ⟨rfl, rfl, rfl⟩

theorem starts {N : List Str} {vs : List V} {ds : List D} {G : GG} {S H : Hp} (e : Ex S H) (r : Reps G S vs ds) (hl : vs.length ≤ N.length) : Holds G H (L2.start N vs) S H (ds.map Sl.val ++ List.replicate (N.length - ds.length) Sl.unk) := by
  have l := r.length
  refine ⟨e, Same.refl _, by unfold L2.start; simp only [List.length_append, List.length_map, List.length_replicate]; omega, fun i d q => ?_, fun i d q => ?_, fun i j d e p q => ?_, fun i a q => ?_⟩
  · by_cases hi : i < ds.length
    · rw [List.getElem?_append_left (by simpa using hi), List.getElem?_map] at q
      cases z : ds[i]? with
      | none => rw [z] at q; cases q
      | some d' =>
        rw [z] at q
        cases q
        obtain ⟨v, hv, rv⟩ := r.get z
        refine ⟨v, ?_, rv⟩
        unfold L2.start
        rw [List.getElem?_append_left (by rw [List.length_map]; omega), List.getElem?_map, hv]
        rfl
    · rw [List.getElem?_append_right (by simpa using hi), List.getElem?_replicate] at q
      split at q <;> cases q
  all_goals
    by_cases hi : i < ds.length
    · rw [List.getElem?_append_left (by simpa using hi), List.getElem?_map] at q
      cases z : ds[i]? with
      | none => rw [z] at q; cases q
      | some d' => rw [z] at q; cases q
    · rw [List.getElem?_append_right (by simpa using hi), List.getElem?_replicate] at q
      split at q <;> cases q

theorem fn_ok {G : GG} {name qual : Str} {st : Stmt} {f : Addr} {fd : FuncData} {N ps : List Str} {k : Nat} {m : List D → M D} (V : List Bool) (kd : List (Str × NameKind)) (Fn : Fun G.K name qual st f fd) (Sc : FnScope N ps (defScope st))
    (hv : visL N V kd = true) (hkd : (defScope st).names = kd) (har : ∀ ds, m ds ≠ .stk → ds.length = ps.length)
    (hB : ∀ cdv A outer s H E hr ds, ds.length = ps.length → ∃ c : Ctl Unit Unit, m ds = c.toM ∧ BM (mkF G Sc V kd hv hkd k qual f cdv A outer s H E hr) (defBody st) (ds.map Sl.val ++ List.replicate (N.length - ds.length) Sl.unk) (c.out (fun _ => []) (fun _ => List.replicate N.length Sl.unk))) :
    FnOk G.P G.w G.K G.mg G.base (L2.CX G.P G.w) (k + 1) f fd ps (spM G m) := by
  have hpl : ps.length ≤ N.length := by have := congrArg List.length Sc.pre; rw [List.length_take] at this; omega
  have len : ∀ vs H Q E, spM G m vs H Q E → ∃ ds : List D, vs.length = ds.length ∧ m ds ≠ .stk := fun vs H Q E h => by
    obtain ⟨S, ds, e, r, p⟩ := h
    exact ⟨ds, r.length, fun z => by rw [z] at p; exact p⟩
  refine Fun.okX Fn Sc (fun vs H Q E h => ?_) (fun cdv A outer s H vs Q E hr h => ?_)
  · obtain ⟨ds, h1, h2⟩ := len vs H Q E h
    exact h1.trans (har ds h2)
  · obtain ⟨S, ds, e, r, p⟩ := h
    have hl : ds.length = ps.length := har ds fun z => by rw [z] at p; exact p
    obtain ⟨c, hc, t, ht, d⟩ := hB cdv A outer s H E hr ds hl
    refine ⟨t, ht _ rfl, ?_⟩
    refine d S H _ (L2.start N vs) S H (Grow.refl e) (starts e r (by rw [r.length, hl]; exact hpl)) ?_
    rw [hc] at p
    cases c with
    | stk => exact p
    | exn x u => exact fun cls dd σ S' H' g _ rx => p cls dd S' H' g rx
    | ret d => exact fun v S' H' g rv _ => p S' H' g v rv
    | nx u => exact fun σ S' H' g _ => p S' H' g _ .non

/-! ### a comprehension's block -/
def relN (kd : List (Str × NameKind)) (names : List (Str × NameKind)) : List (Str × NameKind) := names.map fun (n, k) => if (k == NameKind.free && kd.lookup n == some .cell) then (n, .cell) else (n, k)
def visC (N : List Str) (V : List Bool) (kd : List (Str × NameKind)) : Bool :=
  (List.range N.length).all fun i => !(V.getD i false) || match kd.lookup (N.getD i "") with
    | some .local => true | some .cell => true | some .free => true | _ => false
def locC (N : List Str) (L : List Bool) (kd names : List (Str × NameKind)) : Bool :=
  (List.range N.length).all fun i => !(L.getD i false) || decide (kd.lookup (N.getD i "") = some .local) || (decide (kd.lookup (N.getD i "") = some .cell) && decide (names.lookup (N.getD i "") = some .cell))
def dumS (names : List (Str × NameKind)) : Scope := { kind := .function, names := names, isGenerator := false, isCoroutine := false }
theorem blk_of {N : List Str} {sc scope : Scope} {own : List (Str × Nat)} (h : blkC N (dumS sc.names) scope own = true) : BlkOk N sc scope own := by
  obtain ⟨h1, h2, h3, h4, h5⟩ := blkOk_by h
  exact ⟨h1, h2, h3, h4, h5⟩
structure BlkF (F : Fm) (scope : Scope) (own : List (Str × Nat)) (V L : List Bool) (kd : List (Str × NameKind)) : Prop where
  ok : blkC F.N (dumS F.kd) scope own = true
  hkd : relN F.kd scope.names = kd
  hv : visC F.N V kd = true
  hl : locC F.N L kd scope.names = true
  hw0 : ((List.range L.length).all fun i => !(L.getD i false) || own.any fun p => p.2 == i) = true
theorem BlkF.hw {F : Fm} {scope : Scope} {own : List (Str × Nat)} {V L : List Bool} {kd : List (Str × NameKind)} (B : BlkF F scope own V L kd) (i : Nat) (h : L[i]? = some true) : i ∈ own.map (·.2) := by
  have hi : i < L.length := (List.getElem?_eq_some_iff.mp h).1
  have := List.all_eq_true.mp B.hw0 i (List.mem_range.mpr hi)
  rw [Bool.or_eq_true] at this
  rcases this with z | z
  · rw [List.getD_eq_getElem?_getD, h] at z; cases z
  · obtain ⟨p, hp, q⟩ := List.any_eq_true.mp z
    exact List.mem_map.mpr ⟨p, hp, by simpa using q⟩
theorem relS_names {sc scope : Scope} (h : sc.kind = .function) : (relS scope sc).names = relN sc.names scope.names := by
  unfold relS relN
  rw [h]
  refine List.map_congr_left fun y _ => ?_
  obtain ⟨n, k⟩ := y
  simp
def blkF (F : Fm) {scope : Scope} {own : List (Str × Nat)} {V L : List Bool} {kd : List (Str × NameKind)} (B : BlkF F scope own V L kd) : Fm where
  G := F.G
  W := fun _ _ _ _ => False
  N := F.N
  V := V
  L := L
  kd := kd
  Xs := fun Y => ∃ X s H C cl fp, F.Xs X ∧ Y = X.blk s H scope (compEnvC scope cl C X.env) fp
  k := F.k
  cm := F.cm
  top := false
  fr := F.fr
  hX := by rintro Y ⟨X, s, H, C, cl, fp, h, rfl⟩; exact F.hX X h
  nd := F.nd
  hkd := by
    rintro Y ⟨X, s, H, C, cl, fp, h, rfl⟩
    show (relS scope X.env.scope).names = kd
    rw [relS_names (F.hki X h), F.hkd X h]
    exact B.hkd
  hki := by rintro Y ⟨X, s, H, C, cl, fp, h, rfl⟩; exact (show (relS scope X.env.scope).kind = .function from (blkOk_by B.ok).kind)
  vis := by
    rintro Y ⟨X, s, H, C, cl, fp, h, rfl⟩ i x hV hN
    have q := all_at (p := fun i => match kd.lookup (F.N.getD i "") with | some .local => true | some .cell => true | some .free => true | _ => false) B.hv hV hN
    have e : (relS scope X.env.scope).names = kd := by rw [relS_names (F.hki X h), F.hkd X h]; exact B.hkd
    show (relS scope X.env.scope).names.lookup x = _ ∨ (relS scope X.env.scope).names.lookup x = _ ∨ (relS scope X.env.scope).names.lookup x = _
    rw [e]
    have ex : F.N.getD i "" = x := by rw [List.getD_eq_getElem?_getD, hN]; rfl
    rw [ex] at q
    split at q
    · exact .inl (by assumption)
    · exact .inr (.inl (by assumption))
    · exact .inr (.inr (by assumption))
    · cases q
  loc := by
    rintro Y ⟨X, s, H, C, cl, fp, h, rfl⟩ i x hL hN
    have q := all_at (p := fun i => decide (kd.lookup (F.N.getD i "") = some .local) || (decide (kd.lookup (F.N.getD i "") = some .cell) && decide (scope.names.lookup (F.N.getD i "") = some .cell))) (V := L) (by
      have z := B.hl
      unfold locC at z
      simpa [Bool.or_assoc] using z) hL hN
    have e : (relS scope X.env.scope).names = kd := by rw [relS_names (F.hki X h), F.hkd X h]; exact B.hkd
    show ((relS scope X.env.scope).names.lookup x = _ ∨ (relS scope X.env.scope).names.lookup x = _) ∧ ((scope.names.lookup x == some .cell) = true ∨ (relS scope X.env.scope).names.lookup x = _)
    rw [e]
    have ex : F.N.getD i "" = x := by rw [List.getD_eq_getElem?_getD, hN]; rfl
    rw [ex, Bool.or_eq_true, Bool.and_eq_true] at q
    rcases q with q | ⟨q, r⟩
    · have q := of_decide_eq_true q
      exact ⟨.inl q, .inr q⟩
    · have q := of_decide_eq_true q
      have r := of_decide_eq_true r
      exact ⟨.inr q, .inl (by rw [r]; rfl)⟩
  hc := by rintro hc Y ⟨X, s, H, C, cl, fp, h, rfl⟩; exact F.hc hc X h
  hr := by rintro hc Y ⟨X, s, H, C, cl, fp, h, rfl⟩; exact F.hr hc X h
  hu := by rintro Y ⟨X, s, H, C, cl, fp, h, rfl⟩; exact F.hu X h
  tk := by rintro Y _; exact takes0
  po := by rintro Y ⟨X, s, H, C, cl, fp, h, rfl⟩; exact PassesOwn.never
  ht := fun z => by cases z

/-! ### the tests of a clause -/
def IfM (F : Fm) (ifs : List Expr) (Γ : Gam) (m : M Bool) : Prop := ∃ tt, (∀ X, F.Xs X → PTs X ifs tt) ∧ EvT F tt Γ m
theorem ifm_nil {F : Fm} {Γ : Gam} : IfM F [] Γ (.ok true) := ⟨tYes, fun X _ => pts_nil, fun H0 σ S H Q hh p => p.ok hh.ex⟩
theorem ifm_one {F : Fm} {Γ : Gam} {c : Expr} {m : M Bool} (h : TM F c Γ m) : IfM F [c] Γ m := by
  obtain ⟨t, p, q⟩ := h
  exact ⟨t, fun X hX => pts_one (p X hX), q⟩
def cP (F : Fm) (ifs : List Expr) : TT := fun σ H Q => ∃ t, (∀ X, F.Xs X → PTs X ifs t) ∧ t σ H Q
theorem cP_ok {F : Fm} {ifs : List Expr} (X : Cx) (hX : F.Xs X) : PTs X ifs (cP F ifs) := ⟨fun pins s σ H Q I ⟨_, ht, h⟩ => (ht X hX).run pins s σ H Q I h⟩
theorem IfM.c {F : Fm} {Γ : Gam} {ifs : List Expr} {m : M Bool} (h : IfM F ifs Γ m) : EvT F (cP F ifs) Γ m := let ⟨t, p, q⟩ := h; fun H0 σ S H Q hh po => ⟨t, p, q H0 σ S H Q hh po⟩
def cI (F : Fm) (tg iter : Expr) : TI := fun σ H R => ∃ t, (∀ X, F.Xs X → PI X tg iter t) ∧ t σ H R
theorem cI_ok {F : Fm} {tg iter : Expr} (X : Cx) (hX : F.Xs X) : PI X tg iter (cI F tg iter) := ⟨fun pins s σ H R I ⟨_, ht, h⟩ => (ht X hX).run pins s σ H R I h⟩
theorem IM.c {F : Fm} {Γ : Gam} {tg iter : Expr} {m : M (List D)} (h : IM F tg iter Γ m) : IvM F (cI F tg iter) Γ m := let ⟨t, p, q⟩ := h; fun H0 σ S H R hh po => ⟨t, p, q H0 σ S H R hh po⟩

/-! ### what a comprehension computes -/
def compL (f : D → M (List D)) : List D → M (List D)
  | [] => .ok []
  | d :: ds => (f d).bind fun xs => (compL f ds).bind fun r => .ok (xs ++ r)
def elM (c : M Bool) (e : M D) : M (List D) := ifM c (e.bind fun y => .ok [y]) (.ok [])
def inM (c : M Bool) (i : M (List D)) (f : D → M (List D)) : M (List D) := ifM c (i.bind fun ds => compL f ds) (.ok [])
def lcM (i : M (List D)) (f : D → M (List D)) : M D := i.bind fun ds => ((compL f ds).nox).bind mkLst
theorem compL_cons {f : D → M (List D)} {d : D} {ds r : List D} (h : compL f (d :: ds) = .ok r) : ∃ xs r', f d = .ok xs ∧ compL f ds = .ok r' ∧ r = xs ++ r' := by
  have h : (f d).bind (fun xs => (compL f ds).bind fun r => .ok (xs ++ r)) = .ok r := h
  cases q : f d with
  | stk => rw [q] at h; cases h
  | exn e => rw [q] at h; cases h
  | ok xs =>
    rw [q] at h
    have h : (compL f ds).bind (fun r => .ok (xs ++ r)) = .ok r := h
    cases q2 : compL f ds with
    | stk => rw [q2] at h; cases h
    | exn e => rw [q2] at h; cases h
    | ok r' => rw [q2] at h; cases h; exact ⟨xs, r', rfl, rfl, rfl⟩

/-- the list in the making -/
structure Bs (G : GG) (S1 H1 : Hp) (L : Addr) (acc : List D) (S H : Hp) : Prop where
  grow : Grow S1 H1 S H
  at_ : ∃ vs, H L = some (.lst vs) ∧ Reps G S vs acc
  non : S L = none
section
variable {G : GG} {S1 H1 S H : Hp} {L : Addr} {acc : List D}
theorem Bs.start (e : Ex S1 H1) (h : H1 L = none) : Bs G S1 H1 L [] S1 (upd H1 L (.lst [])) := ⟨Grow.newOwn e h, ⟨[], upd_same, .nil⟩, sub_none e h⟩
theorem Bs.step {S' H' : Hp} (b : Bs G S1 H1 L acc S H) (g : Grow S H S' H') : Bs G S1 H1 L acc S' H' := by
  obtain ⟨vs, h, r⟩ := b.at_
  exact ⟨b.grow.trans g, ⟨vs, g.h _ _ h, r.mono g.s⟩, g.sep L ⟨_, h, fun _ z => by cases z⟩ b.non⟩
theorem Bs.add (b : Bs G S1 H1 L acc S H) (hL : H1 L = none) {y : V} {d : D} (r : Rep G S y d) {vs : List V} (h : H L = some (.lst vs)) : Bs G S1 H1 L (acc ++ [d]) S (upd H L (.lst (vs ++ [y]))) := by
  obtain ⟨vs', h', rs⟩ := b.at_
  rw [h] at h'
  cases h'
  exact ⟨b.grow.own b.non hL, ⟨_, upd_same, rs.append (.cons r .nil)⟩, b.non⟩
theorem Bs.len (b : Bs G S1 H1 L acc S H) : ∃ vs, H L = some (.lst vs) ∧ vs.length = acc.length := by
  obtain ⟨vs, h, r⟩ := b.at_
  exact ⟨vs, h, r.length⟩
/-- done: the list is everybody's -/
theorem Bs.done (b : Bs G S1 H1 L acc S H) (hL : H1 L = none) : ∃ S', Grow S1 H1 S' H ∧ Rep G S' (.ref L) (.lst acc) := by
  obtain ⟨vs, h, r⟩ := b.at_
  refine ⟨upd S L (.lst vs), ⟨b.grow.s.trans (ex_upd b.non), b.grow.h, fun a u q => ?_, fun p h1 h2 => ?_⟩, .lst upd_same (r.mono (ex_upd b.non))⟩
  · by_cases z : a = L
    · subst z; rw [upd_same] at q; rw [h]; exact q
    · rw [upd_ne z] at q; exact b.grow.sub a u q
  · rw [upd_ne (fun z => by subst z; exact h1.ne hL)]
    exact b.grow.sep p h1 h2
end
theorem wipe_at {σ : L2.St} {i : Nat} {vs : List Nat} (h : i ∈ vs) : (wipe σ vs)[i]? = if i < σ.length then some none else none := by
  induction vs with
  | nil => cases h
  | cons v vs ih =>
    unfold wipe
    by_cases hv : v = i
    · subst hv
      by_cases hl : v < σ.length
      · rw [List.getElem?_set_self (by rw [wipe_length]; exact hl), if_pos hl]
      · rw [List.getElem?_eq_none (by rw [List.length_set, wipe_length]; omega), if_neg hl]
    · rw [List.getElem?_set_ne hv]
      exact ih ((List.mem_cons.mp h).resolve_left (fun z => hv z.symm))
theorem wipe_eq {σ σ' : L2.St} {vs : List Nat} {L : List Bool} (hl : σ'.length = σ.length) (h : ∀ i : Nat, L[i]? ≠ some true → σ'[i]? = σ[i]?) (hw : ∀ i : Nat, L[i]? = some true → i ∈ vs) : wipe σ' vs = wipe σ vs := by
  refine List.ext_getElem? fun i => ?_
  by_cases hi : i ∈ vs
  · rw [wipe_at hi, wipe_at hi, hl]
  · rw [wipe_out hi, wipe_out hi]
    exact h i fun z => hi (hw i z)
def wipeΓ (Γ : Gam) : List Nat → Gam
  | [] => Γ
  | v :: vs => (wipeΓ Γ vs).set v Sl.unk
theorem wipeΓ_len (Γ : Gam) : ∀ vs, (wipeΓ Γ vs).length = Γ.length
  | [] => rfl
  | v :: vs => by unfold wipeΓ; rw [List.length_set, wipeΓ_len Γ vs]
theorem wipeΓ_get {Γ : Gam} {i : Nat} {s : Sl} (hs : s ≠ .unk) : ∀ {vs : List Nat}, (wipeΓ Γ vs)[i]? = some s → Γ[i]? = some s ∧ i ∉ vs
  | [], h => ⟨h, by simp⟩
  | v :: vs, h => by
    unfold wipeΓ at h
    by_cases hi : v = i
    · subst hi
      by_cases hv : v < (wipeΓ Γ vs).length
      · rw [List.getElem?_set_self hv] at h; exact absurd (Option.some.inj h).symm hs
      · rw [List.getElem?_eq_none (by simpa using hv)] at h; cases h
    · rw [List.getElem?_set_ne hi] at h
      obtain ⟨h1, h2⟩ := wipeΓ_get hs h
      exact ⟨h1, by simp only [List.mem_cons, not_or]; exact ⟨fun e => hi e.symm, h2⟩⟩
theorem Holds.wipe {G : GG} {H0 : Hp} {σ : L2.St} {S H : Hp} {Γ : Gam} (h : Holds G H0 σ S H Γ) (vs : List Nat) : Holds G H0 (L2.wipe σ vs) S H (wipeΓ Γ vs) := by
  refine ⟨h.ex, h.e0, by rw [wipe_length, wipeΓ_len]; exact h.len, fun i d q => ?_, fun i d q => ?_, fun i j d e p a b c c' => ?_, fun i a q => ?_⟩
  · obtain ⟨q, n⟩ := wipeΓ_get (fun z => by cases z) q
    obtain ⟨v, a, b⟩ := h.val i d q
    exact ⟨v, by rw [wipe_out n]; exact a, b⟩
  · obtain ⟨q, n⟩ := wipeΓ_get (fun z => by cases z) q
    obtain ⟨v, a, b⟩ := h.own i d q
    exact ⟨v, by rw [wipe_out n]; exact a, b⟩
  · obtain ⟨a, n1⟩ := wipeΓ_get (fun z => by cases z) a
    obtain ⟨b, n2⟩ := wipeΓ_get (fun z => by cases z) b
    rw [wipe_out n1] at c
    rw [wipe_out n2] at c'
    exact h.dis i j d e p a b c c'
  · obtain ⟨q, n⟩ := wipeΓ_get (fun z => by cases z) q
    rw [wipe_out n]
    exact h.ref i a q

section
variable {F : Fm} {Γ : Gam} {scope : Scope} {own : List (Str × Nat)} {V L : List Bool} {kd : List (Str × NameKind)} {elt tg iter : Expr} {ifs : List Expr} {pos : Pos} {mi : M (List D)} {f : D → M (List D)} {tf : D → Gam → Option Gam}
/-- one clause: what is asked of a turn -/
def TurnM (F : Fm) (Γ : Gam) (tf : D → Gam → Option Gam) (ifs : List Expr) (elt : Expr) (f : D → M (List D)) : Prop :=
  ∀ d, (∃ Γ' mt me, tf d Γ = some Γ' ∧ IfM F ifs Γ' mt ∧ EM F elt Γ' me ∧ f d = elM mt me) ∨ f d = .stk
theorem ev_lc (B : BlkF F scope own V L kd) (hi : IM F tg iter Γ mi) {g : TG} (hg : ∀ H0 σ S H v d Γ Γ' (Q : L2.St → Hp → Prop), Holds F.G H0 σ S H Γ → Rep F.G S v d → tf d Γ = some Γ' → (∀ σ', Holds F.G H0 σ' S H Γ' → σ'.length = σ.length → (∀ i : Nat, L[i]? ≠ some true → σ'[i]? = σ[i]?) → Q σ' H) → g v σ H Q)
    (ht : TurnM (blkF F B) (wipeΓ Γ (own.map (·.2))) tf ifs elt f) : EvM F (tLc (cI F tg iter) g (cP (blkF F B) ifs) (cE (blkF F B) elt) (own.map (·.2))) Γ (lcM mi f) := by
  intro H0 σ S H Q hh po
  refine hi.c H0 σ S H _ hh ((Po.bind po).imp fun ds S1 H1 g1 q1 J hJ => ?_)
  intro A hA
  cases hc : compL f ds with
  | stk => rw [hc] at q1; exact False.elim q1
  | exn e => rw [hc] at q1; exact False.elim q1
  | ok R =>
    rw [hc] at q1
    obtain ⟨hR, q1⟩ := Po.gate (m := M.ok (D.lst R)) q1
    have h1 : Holds F.G H0 σ S1 H1 Γ := hh.grow g1
    refine ⟨fun i m H => m = ds.length - i ∧ i ≤ ds.length ∧ ∃ S acc r, Bs F.G S1 H1 A acc S H ∧ compL f (ds.drop i) = .ok r ∧ acc ++ r = R, ⟨ds.length, by simp, Nat.zero_le _, S1, [], R, Bs.start g1.sub hA, hc, rfl⟩, ?_⟩
    rintro i m H2 ⟨rfl, hi, S2, acc, r, b, hr, hR2⟩
    obtain ⟨stop, go⟩ := hJ S2 H2 b.grow.s b.grow.sub
    by_cases hlt : i < ds.length
    · obtain ⟨hgo, hy⟩ := go i ds[i] (List.getElem?_eq_getElem hlt)
      rw [List.drop_eq_getElem_cons hlt] at hr
      obtain ⟨xs, r', hx, hr', rfl⟩ := compL_cons hr
      refine .inr ⟨hgo, fun H => ∃ S, Bs F.G S1 H1 A (acc ++ xs) S H, fun H' ⟨S', b'⟩ => ⟨ds.length - (i + 1), by omega, rfl, hlt, S', acc ++ xs, r', b', hr', by rw [List.append_assoc]; exact hR2⟩, fun x H3 y => ?_⟩
      obtain ⟨S3, g3, r3⟩ := hy x H3 y
      rcases ht ds[i] with ⟨Γ', mt, me, e1, hif, hel, hf⟩ | z
      · have h3 := ((h1.grow b.grow).grow g3).wipe (own.map (·.2))
        refine hg H0 _ S3 H3 x ds[i] _ Γ' _ h3 r3 e1 fun σ4 h4 l4 k4 => ⟨wipe_eq l4 k4 B.hw |>.trans ?_, ?_⟩
        · refine List.ext_getElem? fun j => ?_
          by_cases hj : j ∈ own.map (·.2)
          · rw [wipe_at hj, wipe_at hj, wipe_length]
          · rw [wipe_out hj]
        rw [hf] at hx
        have b3 := b.step g3
        cases mt with
        | stk => cases hx
        | exn e => cases hx
        | ok c =>
          refine hif.c H0 σ4 S3 H3 _ h4 (fun S5 H5 g5 => ?_)
          cases c with
          | false =>
            cases hx
            refine iteF ?_
            rw [List.append_nil]
            exact ⟨S5, b3.step g5⟩
          | true =>
            cases me with
            | stk => cases hx
            | exn e => cases hx
            | ok y =>
              cases hx
              refine iteT (hel.c H0 σ4 S5 H5 _ (h4.grow g5) (fun S6 H6 g6 v rv => ?_))
              have b6 := (b3.step g5).step g6
              obtain ⟨vs, hvs, hlen⟩ := b6.len
              refine ⟨vs, hvs, ?_, S6, b6.add hA rv hvs⟩
              have : (acc ++ ([y] ++ r')).length = R.length := congrArg List.length hR2
              simp only [List.length_append, List.length_cons, List.length_nil] at this
              omega
      · rw [z] at hx; cases hx
    · have e : i = ds.length := by omega
      subst e
      rw [List.drop_length] at hr
      cases hr
      rw [List.append_nil] at hR2
      subst hR2
      obtain ⟨S', g', rr⟩ := b.done hA
      exact .inl ⟨stop, q1 S' H2 g' _ rr⟩
theorem em_lc (B : BlkF F scope own V L kd) (hcm : F.cm = true) (hi : IM F tg iter Γ mi) (hg : TgM (blkF F B) tg tf) (ht : TurnM (blkF F B) (wipeΓ Γ (own.map (·.2))) tf ifs elt f)
    (hs : ∀ X, F.Xs X → ∀ x, foldedSetIterable iter X.env x = pure x := by intros; rfl) : EM F (.ListComp elt [⟨tg, iter, ifs, 0⟩] scope pos) Γ (lcM mi f) := by
  obtain ⟨g, pg, eg⟩ := hg
  refine ⟨_, fun X hX => ?_, ev_lc B hi (g := g) (fun H0 σ S H v d Γ Γ' Q => eg H0 σ S H v d Γ Γ' Q) ht⟩
  have hn := F.hN X hX
  exact pe_lc (F.hc hcm X hX) (by rw [hn]; exact F.nd) (cI_ok X hX) (by rw [hn]; exact blk_of (by rw [F.hkd X hX]; exact B.ok)) (fun s H C cl fp => pg _ ⟨X, s, H, C, cl, fp, hX, rfl⟩) (fun s H C cl fp => cP_ok _ ⟨X, s, H, C, cl, fp, hX, rfl⟩) (fun s H C cl fp => cE_ok _ ⟨X, s, H, C, cl, fp, hX, rfl⟩) (hs X hX)
/-- name = [..] -/
theorem gm_lc (i : Nat) {x : Str} {py spos : Pos} (hx : F.N[i]? = some x) (B : BlkF F scope own V L kd) (hcm : F.cm = true) (hi : IM F tg iter Γ mi) (hg : TgM (blkF F B) tg tf) (ht : TurnM (blkF F B) (wipeΓ Γ (own.map (·.2))) tf ifs elt f)
    (hk : F.kd.lookup x = some .local) (hl : (py.line == pos.line) = true) (hl2 : (py.line == spos.line) = true) (ha : (scope.names.any fun (n, k) => n == x && (k == .local || k == .cell)) = false)
    (hs : ∀ X, F.Xs X → ∀ x, foldedSetIterable iter X.env x = pure x := by intros; rfl) : GM F (.Assign [.Name x py] (.ListComp elt [⟨tg, iter, ifs, 0⟩] scope pos) spos) i Γ (lcM mi f) := by
  obtain ⟨g, pg, eg⟩ := hg
  refine ⟨_, fun X hX => ?_, ev_lc B hi (g := g) (fun H0 σ S H v d Γ Γ' Q => eg H0 σ S H v d Γ Γ' Q) ht⟩
  have hn := F.hN X hX
  have hk' : X.env.scope.names.lookup x = some .local := by rw [F.hkd X hX]; exact hk
  exact ps_setLc (F.hc hcm X hX) (by rw [hn]; exact F.nd) (by rw [hn]; exact hx) hk' (sw_true (F.hki X hX) hk' hl ha) (cI_ok X hX) (by rw [hn]; exact blk_of (by rw [F.hkd X hX]; exact B.ok)) (fun s H C cl fp => pg _ ⟨X, s, H, C, cl, fp, hX, rfl⟩) (fun s H C cl fp => cP_ok _ ⟨X, s, H, C, cl, fp, hX, rfl⟩) (fun s H C cl fp => cE_ok _ ⟨X, s, H, C, cl, fp, hX, rfl⟩) (hs X hX)
end
end Mir
namespace Mir
open PySem PySem.Spec L2
open PyProof.Rows (envOfC)
open AutoSeq1 (wpAny_loadPart')

theorem meets_enumerate_newT (l : Addr) (items : Array Value) (n : Nat) (dct : Option Addr) (sl : Array (Option Value)) :
    Meets (Builtin.«enumerate.__new__» ⟨[.type "enumerate", .ref l], []⟩) (fun _ R s => s.heap.get? l = some { cls := .type "tuple", dict := dct, data := .seq items n, slots := sl } ∧
      R (.ok (.ret (.ref (s.heap.push { cls := .type "tuple_iterator", data := .fields #[.ref l, .int 0 0] }).objs.size)))
        { s with heap := (s.heap.push { cls := .type "tuple_iterator", data := .fields #[.ref l, .int 0 0] }).push { cls := .type "enumerate", data := .fields #[.none, .bool false, .ref s.heap.objs.size, rawInt 0, .none, .none] } }) :=
  .of_wp fun prog w A R s h => by
    obtain ⟨hp, g, d, tk, os⟩ := s; obtain ⟨hl, h⟩ := h
    have hsub := sub_enumerate
    have hL : Heap.IsTuple (Shared.heap ⟨hp, g, d, tk, os⟩) l items := ⟨_, hl, rfl, n, rfl⟩
    wp_walk using wpAny_loadPart' hl
    refine wpAny_stack_any fun st => wpAny_pure ?_
    split
    · rename_i c _ _ _ _ _
      cases (c == Value.type "enumerate")
      · wp_walk using wpAny_loadPart' hl, wpAny_pyIter_tuple hL
        exact ⟨_, rfl, h⟩
      · wp_walk using wpAny_loadPart' hl, wpAny_pyIter_tuple hL
        exact ⟨_, rfl, h⟩
    · wp_walk using wpAny_loadPart' hl, wpAny_pyIter_tuple hL
      exact ⟨_, rfl, h⟩
section
variable {prog : Program} {w : World} {A : Around} {E : Value → Shared → Prop} {s : Shared}
theorem call_enumerate_tuple {l : Addr} {items : Array Value} {Q : Value → Shared → Prop} (hL : s.heap.IsTuple l items)
    (h : ∀ h', IsEnum h' (s.heap.objs.size + 1) s.heap.objs.size 0 .none → h'.IsTupleIter s.heap.objs.size l 0 → h'.objs.size = s.heap.objs.size + 2 →
      (∀ b o, s.heap.get? b = some o → h'.get? b = some o) → Q (.ref (s.heap.objs.size + 1)) { s with heap := h' }) :
    wpAny (model prog w) A (call (.type "enumerate") [.ref l]) Q E s := by
  obtain ⟨⟨c, dct, dt, sl⟩, hl, hc, n, hd⟩ := hL
  replace hc : c = .type "tuple" := hc
  replace hd : dt = .seq items n := hd
  subst hc hd
  refine callType_new F.called_enumerate (by decide) (F.typeCall_enumerate_1 _) (F.newCall_enumerate_1 _) (fun obj => F.args_object_init_2 obj _) F.entry_enumerate_new
    (meets_enumerate_newT l items n dct sl) ⟨hl, ?_⟩
  have hz : (s.heap.push { cls := .type "tuple_iterator", data := .fields #[.ref l, .int 0 0] }).objs.size = s.heap.objs.size + 1 := Heap.size_push ..
  show _ ∧ _
  rw [hz]
  have he : IsEnum ((s.heap.push { cls := .type "tuple_iterator", data := .fields #[.ref l, .int 0 0] }).push
      { cls := .type "enumerate", data := .fields #[.none, .bool false, .ref s.heap.objs.size, rawInt 0, .none, .none] }) (s.heap.objs.size + 1) s.heap.objs.size 0 .none := by
    have := Heap.get?_push_size (s.heap.push { cls := .type "tuple_iterator", data := .fields #[.ref l, .int 0 0] })
      (o := { cls := .type "enumerate", data := .fields #[.none, .bool false, .ref s.heap.objs.size, rawInt 0, .none, .none] }) rfl
    rw [hz] at this; exact this
  refine ⟨⟨_, he, rfl⟩, h _ he ⟨_, Heap.get?_push_of_some _ (Heap.get?_push_size _ rfl), rfl, rfl⟩ (by rw [Heap.size_push, hz]) fun b o x => Heap.get?_push_of_some _ (Heap.get?_push_of_some _ x)⟩
end
def IteT (K : PySem.W.Frag) (a : Addr) : It :=
  ⟨fun i H => ∃ (xs : List V) (x : V), SqT K H a xs ∧ xs[i]? = some x, fun i H v H' => ∃ T x, v = .ref T ∧ H T = none ∧ H' = upd H T (.tup [.int (i : Nat), x]) ∧ ∀ xs, SqT K H a xs → xs[i]? = some x, fun i H => ∃ xs : List V, SqT K H a xs ∧ xs.length ≤ i⟩
theorem turn_enumT {P : Program} {w : World} {K : PySem.W.Frag} {elts : List Expr} {kk : Nat} {tpos : Pos} (a e it : Addr) (hai : a ≠ it) (hae : a ≠ e) :
    Turn P w K (.Tuple elts kk tpos) (IteT K a) [e, it] e (fun i h => (∃ old, IsEnum h e it ((i : Nat) : Int) old) ∧ h.IsTupleIter it a i ∧ e ≠ it) where
  mem := by simp
  obj := fun i h st b hb => by
    obtain ⟨⟨old, he⟩, ⟨o, ho, hc, hd⟩, _⟩ := st
    have e' : b = e ∨ b = it := by simpa using hb
    rcases e' with z | z
    · rw [z]; exact ⟨_, he, fun v q => nomatch q⟩
    · rw [z]; exact ⟨o, ho, fun v q => by rw [hd] at q; cases q⟩
  keep := fun i h h' st k => let ⟨⟨old, he⟩, hi, hne⟩ := st; ⟨⟨old, k e (by simp) _ he⟩, hi.at fun o q => k it (by simp) o q, hne⟩
  item := by
    intro X hP hw hK hc i pins s σ H E I hf st hg
    subst hP hw hK
    obtain ⟨⟨old, he⟩, hit, hne⟩ := st
    obtain ⟨xs, x, hq, hx⟩ := hg
    obtain ⟨its, rv, p, hz⟩ := I.tuple hq
    obtain ⟨u, hu, ru⟩ := rv.get hx
    have hel : e < s.heap.objs.size := Heap.lt_size he
    have hil : it < s.heap.objs.size := by obtain ⟨_, q, _⟩ := hit; exact Heap.lt_size q
    have ht : s.heap.IsTuple a its.toArray := p
    have hlt : i < its.toArray.size := by
      have := (List.getElem?_eq_some_iff.mp hu).1
      simpa using this
    refine wpAny_pyNext_enum_itemD (Draws.tuple (show X.A.in1.handled = none from I.ok.hd hc) it a hai its.toArray) he ⟨hit, ht⟩ hlt hne (by simp [hne, Ne.symm hae]) fun x' h' tk hP ho hit' hT hsz hk => ?_
    have ex : x' = u := by
      have h1 : its.toArray[i]? = some x' := hP
      rw [List.getElem?_toArray, hu] at h1
      exact (Option.some.inj h1).symm
    subst ex
    refine ⟨_, rfl, wpAny_letOwnedTupleGo_enum (s := { s with heap := h', toks := tk + 1 }) ho fun h'' he' sb => ?_⟩
    have hT2 : h''.get? s.heap.objs.size = some { cls := .type "tuple", data := .seq #[.int i tk, x'] } := (sb.2 _ (Nat.ne_of_gt hel)).trans hT
    have new : ObjOk X.prog X.w (upd H s.heap.objs.size (.tup [.int (i : Nat), x])) h'' s.heap.objs.size (.tup [.int (i : Nat), x]) :=
      ⟨by show 2 ≤ sizeLine; decide, [.int i tk, x'], .cons ⟨_, rfl⟩ (.cons ru .nil), ⟨_, hT2, rfl, _, rfl⟩⟩
    have I1 : Inv X pins σ (upd H s.heap.objs.size (.tup [.int (i : Nat), x])) { s with heap := h'', toks := tk + 1 } :=
      I.turnedNew (ch := [e, it]) (fun b ob hb q => (sb.2 b (fun z => hb (by simp [z]))).trans (hk b ob (fun z => hb (by simp [z])) (fun z => hb (by simp [z])) q)) hf (Nat.le_refl _) new
    refine ⟨.ref s.heap.objs.size, _, I1, rfl, ⟨_, x, rfl, I.hok.fresh (Nat.le_refl _), rfl, fun ys hy => by rw [I.tuple_inj hy hq]; exact hx⟩, ⟨⟨x', ?_⟩, hit'.1.at fun o q => (sb.2 it (Ne.symm hne)).trans q, hne⟩, fun b hb => ?_⟩
    · have e1 : ((i + 1 : Nat) : Int) = (i : Int) + 1 := by omega
      rw [e1]; exact he'
    · have hb' : b < s.heap.objs.size := by
        have e' : b = e ∨ b = it := by simpa using hb
        rcases e' with z | z
        · rw [z]; exact hel
        · rw [z]; exact hil
      rw [upd_ne (Nat.ne_of_lt hb')]
      exact (hf b hb).1
  done := by
    intro X hP hw hK hc i pins s σ H E I hf st hg
    subst hP hw hK
    obtain ⟨⟨old, he⟩, hit, hne⟩ := st
    obtain ⟨xs, hq, hx⟩ := hg
    obtain ⟨its, rv, p, hz⟩ := I.tuple hq
    obtain ⟨f0, f1, f2, f3, f4, f5⟩ := hf it (by simp)
    have hl := rv.length
    have D := Draws.tuple (prog := X.prog) (w := X.w) (show X.A.in1.handled = none from I.ok.hd hc) it a hai its.toArray
    have hT : s.TypeIs (.ref e) "enumerate" := ⟨_, he, rfl⟩
    unfold pyNext
    refine wpAny_bind (wpAny_attempt (wpAny_callSpecial?_slot (name := Str.ofString "__next__") hT F.slot_enumerate_next
      (wpAny_call_entry F.slot_enumerate_next hT F.entry_enumerate_next ?_ (F.args_enumerate_next_1 _))))
    show wpAny _ _ (field (.ref e) 2 >>= _) _ _ _
    refine wpAny_bind (wpAny_field he rfl (x := .ref it) rfl ?_)
    refine wpAny_bind (wpAny_nextOf_tuple_end (show X.A.in1.handled = none from I.ok.hd hc) hit p (by simp; omega) fun h' x he' hx' => ?_)
    obtain ⟨o, ho, hc'⟩ := hx'
    refine wpAny_bind (wpAny_isInstance (T := "StopIteration") (b := true) ⟨o, ho, hc'⟩ isSubtype_stop ?_)
    exact wpAny_pure ⟨rfl, I.turned (t' := s.toks) (fun b o hb q => he' b o hb q) f0 f1 f3 f4 f5⟩
  self := fun A i s Q E st h => let ⟨⟨_, he⟩, _⟩ := st; wpAny_pyIter_enum he h
def iEnumT (K : PySem.W.Frag) (ta : TA) : TI := fun σ H R => ta σ H fun vs H1 => ∃ a xs, vs = [.ref a] ∧ SqT K H1 a xs ∧ R (IteT K a) H1
theorem pi_enumT {X : Cx} {e : Expr} {ta : TA} {p pos tpos : Pos} {elts : List Expr} {kk : Nat} (hg : Gl X "enumerate") (hm : X.mg "enumerate" = none) (ha : PA X [e] ta) (hs : starEach [e] X.env = [(false, eval e X.env)] := by rfl) :
    PI X (.Tuple elts kk tpos) (.Call (.Name "enumerate" p) [e] [] pos) (iEnumT X.K ta) := by
  refine ⟨fun pins s σ H R I h => ?_⟩
  refine PyProof.Rows.Call_ (ld_blt I hg hm PyProof.Rows.boot_enumerate (PyProof.Rows.callWith_type1 (thn (ha.run pos pins s σ H _ I h) fun us s1 ⟨vs, H1, I1, r1, q1⟩ => ?_) hs rfl))
  obtain ⟨a, xs, ex, hq, q⟩ := q1
  subst ex
  cases r1 with
  | cons r rr =>
    cases rr
    cases r
    obtain ⟨its, rv, p', hz⟩ := I1.tuple hq
    have hal : a < s1.heap.objs.size := p'.lt
    refine call_enumerate_tuple p' fun h' he hit hsz hk => wpAny_pyIter_enum he ?_
    have I2 : Inv X pins σ H1 { s1 with heap := h' } := I1.kept (t' := s1.toks) hk
    refine ⟨s1.heap.objs.size + 1, [s1.heap.objs.size + 1, s1.heap.objs.size], _, _, H1, rfl, I2, turn_enumT a (s1.heap.objs.size + 1) s1.heap.objs.size (Nat.ne_of_lt hal) (Nat.ne_of_lt (Nat.lt_succ_of_lt hal)), ⟨⟨.none, he⟩, hit, Nat.succ_ne_self _⟩, fun b hb => ?_, q⟩
    have e' : b = s1.heap.objs.size + 1 ∨ b = s1.heap.objs.size := by simpa using hb
    have hle : s1.heap.objs.size ≤ b := by
      rcases e' with z | z
      · rw [z]; exact Nat.le_add_right _ _
      · rw [z]; exact Nat.le_refl _
    exact I1.fpOk hle (I1.hok.fresh hle)

/-! ### enumerate, lists and tuples -/
def numD (k : Nat) : List D → List D
  | [] => []
  | d :: ds => .tup [.int (k : Int), d] :: numD (k + 1) ds
theorem numD_len : ∀ (ds : List D) (k : Nat), (numD k ds).length = ds.length
  | [], _ => rfl
  | d :: ds, k => congrArg (· + 1) (numD_len ds (k + 1))
theorem numD_get : ∀ (ds : List D) (k i : Nat) {x : D}, (numD k ds)[i]? = some x → ∃ d, ds[i]? = some d ∧ x = .tup [.int ((k + i : Nat) : Int), d]
  | [], _, _, _, h => by cases h
  | d :: ds, k, 0, x, h => ⟨d, rfl, (Option.some.inj h).symm⟩
  | d :: ds, k, i + 1, x, h => by
    obtain ⟨d', h1, h2⟩ := numD_get ds (k + 1) i (x := x) h
    exact ⟨d', h1, by rw [h2, show k + 1 + i = k + (i + 1) by omega]⟩
def pyEnum : List D → M (List D)
  | [.lst xs] => .ok (numD 0 xs)
  | [.tup xs] => .ok (numD 0 xs)
  | _ => .stk
section
variable {F : Fm} {Γ : Gam} {a : Expr} {pos : Pos} {G : GG} {S : Hp}
theorem it_enum {p : Addr} {vs : List V} {ds : List D} (h : SqL G.K S p vs) (r : Reps G S vs ds) : ItSem G (Ite G.K p) S (numD 0 ds) := fun S' H' e1 e2 => by
  have h' := ex_l e2 (ex_l e1 h)
  refine ⟨⟨vs, h', by rw [r.length, numD_len]; exact Nat.le_refl _⟩, fun i x hx => ?_⟩
  obtain ⟨d, hd, rfl⟩ := numD_get ds 0 i hx
  obtain ⟨v, hv, rv⟩ := r.get hd
  refine ⟨⟨vs, v, h', hv⟩, fun x H'' y => ?_⟩
  obtain ⟨T, z, rfl, hT, rfl, y⟩ := y
  have : v = z := Option.some.inj (hv.symm.trans (y vs h'))
  subst this
  have g := Grow.new (o := HO.tup [.int ((0 + i : Nat) : Int), v]) e2 hT
  refine ⟨_, by rw [show (0 + i : Nat) = i by omega] at g; exact g, ?_⟩
  refine .tup (by rw [upd_same, show (0 + i : Nat) = i by omega]) (.cons (.int _) (.cons ((rv.mono e1).mono (ex_upd (sub_none e2 hT))) .nil))
theorem it_enumT {p : Addr} {vs : List V} {ds : List D} (h : SqT G.K S p vs) (r : Reps G S vs ds) : ItSem G (IteT G.K p) S (numD 0 ds) := fun S' H' e1 e2 => by
  have h' := ex_t e2 (ex_t e1 h)
  refine ⟨⟨vs, h', by rw [r.length, numD_len]; exact Nat.le_refl _⟩, fun i x hx => ?_⟩
  obtain ⟨d, hd, rfl⟩ := numD_get ds 0 i hx
  obtain ⟨v, hv, rv⟩ := r.get hd
  refine ⟨⟨vs, v, h', hv⟩, fun x H'' y => ?_⟩
  obtain ⟨T, z, rfl, hT, rfl, y⟩ := y
  have : v = z := Option.some.inj (hv.symm.trans (y vs h'))
  subst this
  have g := Grow.new (o := HO.tup [.int ((0 + i : Nat) : Int), v]) e2 hT
  refine ⟨_, by rw [show (0 + i : Nat) = i by omega] at g; exact g, ?_⟩
  refine .tup (by rw [upd_same, show (0 + i : Nat) = i by omega]) (.cons (.int _) (.cons ((rv.mono e1).mono (ex_upd (sub_none e2 hT))) .nil))
theorem im_enum {p tpos : Pos} {elts : List Expr} {kk : Nat} {m : M D} (hg : F.kd.lookup ("enumerate" : Str) = some NameKind.globalImplicit) (hm : F.G.mg "enumerate" = none) (ha : EM F a Γ m)
    (hst : ∀ X, F.Xs X → starEach [a] X.env = (false, eval a X.env) :: starEach [] X.env := by intros; rfl) (hs : ∀ X, F.Xs X → starEach [a] X.env = [(false, eval a X.env)] := by intros; rfl) :
    IM F (.Tuple elts kk tpos) (.Call (.Name "enumerate" p) [a] [] pos) Γ (b1 pyEnum (mlist [m])) := by
  obtain ⟨t, q, f⟩ := am_cons ha am_nil hst
  obtain ⟨t1, q1, f1⟩ := ha
  refine ⟨fun σ H R => iEnum F.G.K (tCons t1 tNil) σ H R ∨ iEnumT F.G.K (tCons t1 tNil) σ H R, fun X hX => ?_, fun H0 σ S H R hh po => ?_⟩
  · have hg' := F.gl X hX hg
    have hm' : X.mg "enumerate" = none := by rw [(F.hX X hX).2.2.2.1]; exact hm
    have pa : PA X [a] (tCons t1 tNil) := pa_cons (q1 X hX) pa_nil (hst X hX)
    have h := PI_or (pi_enum (elts := elts) (kk := kk) (tpos := tpos) (p := p) (pos := pos) hg' hm' pa (hs X hX)) (pi_enumT hg' hm' pa (hs X hX))
    rw [F.hK X hX] at h
    exact h
  · cases m with
    | stk => exact False.elim po
    | exn e => exact .inl (f1 H0 σ S H _ hh po)
    | ok d =>
      have po : Po F.G (WE F.W σ) S H (fun ds S' H' => ∀ J, ItSem F.G J S' ds → R J H') (pyEnum [d]) := po
      cases d with
      | lst xs =>
        refine .inl (f1 H0 σ S H _ hh fun S1 H1 g v r => ?_)
        cases r with
        | lst h r => exact ⟨_, _, rfl, SqL.of (g.sub _ _ h), po S1 H1 g _ (it_enum (SqL.of h) r)⟩
      | tup xs =>
        refine .inr (f1 H0 σ S H _ hh fun S1 H1 g v r => ?_)
        cases r with
        | tup h r => exact ⟨_, _, rfl, SqT.of (g.sub _ _ h), po S1 H1 g _ (it_enumT (SqT.of h) r)⟩
      | _ => exact False.elim po
end
end Mir
namespace Mir
open PySem PySem.Spec L2
open PyProof.Rows (envOfC)

section
variable {F : Fm} {Γ : Gam} {X S : Type} {fx : X → Gam} {fs : S → Gam} {x0 : X} {pos : Pos} {rest : List Stmt}
/-! ### the comparisons by their rules -/
theorem ok_lt (X : Cx) (_ : F.Xs X) : OpR X (compareOp .Lt) rLtA := op_ltA
theorem ok_le (X : Cx) (_ : F.Xs X) : OpR X (compareOp .LtE) (rI0 fun i j => .bl (decide (i ≤ j))) := op_le
theorem ok_gt (X : Cx) (_ : F.Xs X) : OpR X (compareOp .Gt) (rI0 fun i j => .bl (decide (j < i))) := op_gt
theorem ok_ge (X : Cx) (_ : F.Xs X) : OpR X (compareOp .GtE) (rI0 fun i j => .bl (decide (j ≤ i))) := op_ge
theorem ok_eq (X : Cx) (hX : F.Xs X) : OpR X (compareOp .Eq) (rEqA F.G.K) := by
  have h := op_eq.or (op_eqD (F.hu X hX))
  rw [F.hK X hX] at h
  exact h
theorem ok_ne (X : Cx) (hX : F.Xs X) : OpR X (compareOp .NotEq) (rNeA F.G.K) := by
  have h := op_ne.or (op_neD (F.hu X hX))
  rw [F.hK X hX] at h
  exact h
theorem ok_in (X : Cx) (hX : F.Xs X) : OpR X (compareOp .In) (rIn F.G.K false) := by
  have h := op_in_seq (X := X)
  rw [F.hK X hX] at h
  exact h
theorem ok_ni (X : Cx) (hX : F.Xs X) : OpR X (compareOp .NotIn) (rIn F.G.K true) := by
  have h := op_notIn_seq (X := X)
  rw [F.hK X hX] at h
  exact h
theorem ok_is (X : Cx) (_ : F.Xs X) : OpR X (compareOp .Is) (fun x y H Q => y = .non ∧ Q (.bl (decide (x = .non))) H) := op_isN
theorem ok_isnot (X : Cx) (_ : F.Xs X) : OpR X (compareOp .IsNot) (fun x y H Q => y = .non ∧ Q (.bl (!decide (x = .non))) H) := op_notN

/-! ### tuples taken apart -/
def un2 {α : Type} (z : α) (d : D) (k : D → D → α) : α := match unD d with
  | some [a, b] => k a b
  | _ => z
theorem un2_at {α : Type} {z : α} {d : D} {k : D → D → α} {a b : D} (h : unD d = some [a, b]) : un2 z d k = k a b := by
  unfold un2
  rw [h]
theorem un2_cs (d : D) : (∃ a b, unD d = some [a, b]) ∨ (∀ {α : Type} (z : α) (k : D → D → α), un2 z d k = z) := by
  by_cases h : ∃ a b, unD d = some [a, b]
  · exact .inl h
  · refine .inr fun z k => ?_
    unfold un2
    split
    · rename_i q
      exact absurd ⟨_, _, q⟩ h
    · rfl
def un3 {α : Type} (z : α) (d : D) (k : D → D → D → α) : α := match unD d with
  | some [a, b, c] => k a b c
  | _ => z
theorem un3_at {α : Type} {z : α} {d : D} {k : D → D → D → α} {a b c : D} (h : unD d = some [a, b, c]) : un3 z d k = k a b c := by
  unfold un3
  rw [h]
theorem un3_cs (d : D) : (∃ a b c, unD d = some [a, b, c]) ∨ (∀ {α : Type} (z : α) (k : D → D → D → α), un3 z d k = z) := by
  by_cases h : ∃ a b c, unD d = some [a, b, c]
  · exact .inl h
  · refine .inr fun z k => ?_
    unfold un3
    split
    · rename_i q
      exact absurd ⟨_, _, _, q⟩ h
    · rfl
def un4 {α : Type} (z : α) (d : D) (k : D → D → D → D → α) : α := match unD d with
  | some [a, b, c, e] => k a b c e
  | _ => z
theorem un4_at {α : Type} {z : α} {d : D} {k : D → D → D → D → α} {a b c e : D} (h : unD d = some [a, b, c, e]) : un4 z d k = k a b c e := by
  unfold un4
  rw [h]
theorem un4_cs (d : D) : (∃ a b c e, unD d = some [a, b, c, e]) ∨ (∀ {α : Type} (z : α) (k : D → D → D → D → α), un4 z d k = z) := by
  by_cases h : ∃ a b c e, unD d = some [a, b, c, e]
  · exact .inl h
  · refine .inr fun z k => ?_
    unfold un4
    split
    · rename_i q
      exact absurd ⟨_, _, _, _, q⟩ h
    · rfl

/-! ### raise X('..'), X an own class without __init__ -/
structure ExcK (G : GG) (x : Str) (c : Nat) : Prop where
  ex : ∃ C, G.xc c = .ref C ∧ PySem.W.excIn G.K C [.type "ValueError", .type "Exception", .type "BaseException", .type "object"] "ValueError.__new__" = true ∧ G.mg x = some (.ref C) ∧ PySem.W.keepIn G.K (.ref C) = true ∧
    PySem.W.subIn G.K (.ref C) (.type "BaseException") = some true ∧ PySem.W.typeIn G.K (.ref C) = some (.type "type")
theorem bm_raise {x m : Str} {c : Nat} {j : Nat} {p p2 p3 : Pos} (K : ExcK F.G x c) (hcm : F.cm = true) (hg : F.kd.lookup x = some .globalImplicit) (w : Weak Γ (fx x0)) (hdb : (x == ("__debug__" : Str)) = false := by decide) :
    BM F [.Raise (some (.Call (.Name x p) [.Constant (.str m) j p2] [] p3)) none pos] Γ ((Ctl.exn ⟨c, []⟩ x0 : Ctl X S).out fx fs) := by
  obtain ⟨C, hc, q, gC, kC, b, t⟩ := K.ex
  refine ⟨fun _ σ H => F.W (.ref C) none σ H, fun Y hY => pss_one ?_, fun S0 H0 Dn σ S H g hh po => ?_⟩
  · obtain ⟨h1, h2, h3, h4, h5, _⟩ := F.hX Y hY
    rw [← h3] at q kC b t
    rw [← h4] at gC
    exact ps_raise (F.hc hcm Y hY) (F.tk Y hY) (pmk_own PySem.F.excBase_ValueError q gC kC (raises_own b t) (F.gl Y hY hg) hdb)
  · exact po (.ref C) none σ S H g ⟨Γ, hh, w⟩ ⟨hc.symm, .inl ⟨rfl, rfl⟩⟩
end
end Mir
namespace Mir
open PySem PySem.Spec L2
open PyProof.Rows (envOfC)

/-! ### the built-in names are not bound by the module -/
structure Bi (G : GG) : Prop where
  f_len : G.mg "len" = none
  f_int : G.mg "int" = none
  f_range : G.mg "range" = none
  f_list : G.mg "list" = none
  f_isinstance : G.mg "isinstance" = none
  f_enumerate : G.mg "enumerate" = none
  f_sorted : G.mg "sorted" = none
  f_str : G.mg "str" = none
  f_tuple : G.mg "tuple" = none
  f_max : G.mg "max" = none
  f_min : G.mg "min" = none
  f_sum : G.mg "sum" = none
  f_all : G.mg "all" = none
  f_zip : G.mg "zip" = none
  f_iter : G.mg "iter" = none
  f_bool : G.mg "bool" = none
  f_ValueError : G.mg "ValueError" = none

/-! ### arities -/
def ar1 (f : D → Ctl Unit Unit) : List D → M D
  | [a] => (f a).toM
  | _ => .stk
def ar2 (f : D → D → Ctl Unit Unit) : List D → M D
  | [a, b] => (f a b).toM
  | _ => .stk
def ar3 (f : D → D → D → Ctl Unit Unit) : List D → M D
  | [a, b, c] => (f a b c).toM
  | _ => .stk
def ar4 (f : D → D → D → D → Ctl Unit Unit) : List D → M D
  | [a, b, c, d] => (f a b c d).toM
  | _ => .stk
def ar5 (f : D → D → D → D → D → Ctl Unit Unit) : List D → M D
  | [a, b, c, d, e] => (f a b c d e).toM
  | _ => .stk
def ar6 (f : D → D → D → D → D → D → Ctl Unit Unit) : List D → M D
  | [a, b, c, d, e, g] => (f a b c d e g).toM
  | _ => .stk
theorem ar1_len {f : D → Ctl Unit Unit} {x : Str} : ∀ ds, ar1 f ds ≠ .stk → ds.length = [x].length
  | [_], _ => rfl
  | [], h => absurd rfl h
  | _ :: _ :: _, h => absurd rfl h
theorem ar2_len {f : D → D → Ctl Unit Unit} {x y : Str} : ∀ ds, ar2 f ds ≠ .stk → ds.length = [x, y].length
  | [_, _], _ => rfl
  | [], h => absurd rfl h
  | [_], h => absurd rfl h
  | _ :: _ :: _ :: _, h => absurd rfl h
theorem ar3_len {f : D → D → D → Ctl Unit Unit} {x y z : Str} : ∀ ds, ar3 f ds ≠ .stk → ds.length = [x, y, z].length
  | [_, _, _], _ => rfl
  | [], h => absurd rfl h
  | [_], h => absurd rfl h
  | [_, _], h => absurd rfl h
  | _ :: _ :: _ :: _ :: _, h => absurd rfl h
theorem ar4_len {f : D → D → D → D → Ctl Unit Unit} {x y z u : Str} : ∀ ds, ar4 f ds ≠ .stk → ds.length = [x, y, z, u].length
  | [_, _, _, _], _ => rfl
  | [], h => absurd rfl h
  | [_], h => absurd rfl h
  | [_, _], h => absurd rfl h
  | [_, _, _], h => absurd rfl h
  | _ :: _ :: _ :: _ :: _ :: _, h => absurd rfl h
theorem ar5_len {f : D → D → D → D → D → Ctl Unit Unit} {x y z u w : Str} : ∀ ds, ar5 f ds ≠ .stk → ds.length = [x, y, z, u, w].length
  | [_, _, _, _, _], _ => rfl
  | [], h => absurd rfl h
  | [_], h => absurd rfl h
  | [_, _], h => absurd rfl h
  | [_, _, _], h => absurd rfl h
  | [_, _, _, _], h => absurd rfl h
  | _ :: _ :: _ :: _ :: _ :: _ :: _, h => absurd rfl h
theorem ar6_len {f : D → D → D → D → D → D → Ctl Unit Unit} {x y z u w v : Str} : ∀ ds, ar6 f ds ≠ .stk → ds.length = [x, y, z, u, w, v].length
  | [_, _, _, _, _, _], _ => rfl
  | [], h => absurd rfl h
  | [_], h => absurd rfl h
  | [_, _], h => absurd rfl h
  | [_, _, _], h => absurd rfl h
  | [_, _, _, _], h => absurd rfl h
  | [_, _, _, _, _], h => absurd rfl h
  | _ :: _ :: _ :: _ :: _ :: _ :: _ :: _, h => absurd rfl h
theorem len1 {ds : List D} {x : Str} (h : ds.length = [x].length) : ∃ a, ds = [a] := match ds, h with | [a], _ => ⟨a, rfl⟩
theorem len2 {ds : List D} {x y : Str} (h : ds.length = [x, y].length) : ∃ a b, ds = [a, b] := match ds, h with | [a, b], _ => ⟨a, b, rfl⟩
theorem len3 {ds : List D} {x y z : Str} (h : ds.length = [x, y, z].length) : ∃ a b c, ds = [a, b, c] := match ds, h with | [a, b, c], _ => ⟨a, b, c, rfl⟩
theorem len4 {ds : List D} {x y z u : Str} (h : ds.length = [x, y, z, u].length) : ∃ a b c d, ds = [a, b, c, d] := match ds, h with | [a, b, c, d], _ => ⟨a, b, c, d, rfl⟩
theorem len5 {ds : List D} {x y z u w : Str} (h : ds.length = [x, y, z, u, w].length) : ∃ a b c d e, ds = [a, b, c, d, e] := match ds, h with | [a, b, c, d, e], _ => ⟨a, b, c, d, e, rfl⟩
theorem len6 {ds : List D} {x y z u w v : Str} (h : ds.length = [x, y, z, u, w, v].length) : ∃ a b c d e f, ds = [a, b, c, d, e, f] := match ds, h with | [a, b, c, d, e, f], _ => ⟨a, b, c, d, e, f, rfl⟩
theorem kn_of {G : GG} {x qual : Str} {st : Stmt} {f : Addr} {fd : FuncData} {ps : List Str} {k : Nat} {m : List D → M D} (Fn : Fun G.K x qual st f fd) (ok : FnOk G.P G.w G.K G.mg G.base (L2.CX G.P G.w) k f fd ps (spM G m)) (hm : G.mg x = some (.ref f)) (b : Binds G.K fd ps []) : Kn G k x m :=
  ⟨f, fd, ps, k, Nat.le_refl _, ok, hm, Fn.kp, b⟩

section
variable {F : Fm} {Γ : Gam} {X S : Type} {fx : X → Gam} {fs : S → Gam} {x0 : X} {pos : Pos} {rest : List Stmt}
/-! ### a, b = x, y -/
def unL2 {α : Type} (z : α) (ds : List D) (k : D → D → α) : α := match ds with
  | [a, b] => k a b
  | _ => z
def unL3 {α : Type} (z : α) (ds : List D) (k : D → D → D → α) : α := match ds with
  | [a, b, c] => k a b c
  | _ => z
theorem mlist2 {m n : M D} {ds : List D} (h : mlist [m, n] = .ok ds) : ∃ a b, ds = [a, b] := by
  cases m with
  | stk => cases h
  | exn e => cases h
  | ok a => cases n with
    | stk => cases h
    | exn e => cases h
    | ok b => cases h; exact ⟨a, b, rfl⟩
theorem mlist3 {m n l : M D} {ds : List D} (h : mlist [m, n, l] = .ok ds) : ∃ a b c, ds = [a, b, c] := by
  cases m with
  | stk => cases h
  | exn e => cases h
  | ok a => cases n with
    | stk => cases h
    | exn e => cases h
    | ok b => cases l with
      | stk => cases h
      | exn e => cases h
      | ok c => cases h; exact ⟨a, b, c, rfl⟩
theorem bm_par2 (i j : Nat) {x y : Str} {a b : Expr} {ma mb : M D} {px py pt : Pos} {kt k2 pt2} {k : D → D → Ctl X S} (ha : AM F [a, b] Γ (mlist [ma, mb])) (w : Weak Γ (fx x0)) (hr : ∀ u v, BM F rest ((Γ.set i (Sl.val u)).set j (Sl.val v)) ((k u v).out fx fs))
    (hcm : F.cm = true) (hi : F.N[i]? = some x) (hj : F.N[j]? = some y) (hij : i ≠ j) (hx : F.kd.lookup x = some .local) (hy : F.kd.lookup y = some .local)
    (hw : ∀ Y, F.Xs Y → swappedStores [.Tuple [.Name x px, .Name y py] kt pt] (.Tuple [a, b] k2 pt2) Y.env = pure (some [x, y]))
    (hs : ∀ Y, F.Xs Y → swapsWithSole [.Tuple [.Name x px, .Name y py] kt pt] (.Tuple [a, b] k2 pt2) pos.line Y.env = pure false := by intros; rfl) :
    BM F (.Assign [.Tuple [.Name x px, .Name y py] kt pt] (.Tuple [a, b] k2 pt2) pos :: rest) Γ (((mlist [ma, mb]).bindC x0 fun ds => unL2 .stk ds k).out fx fs) := by
  obtain ⟨t, p, f⟩ := ha
  refine bm_cons (t := tPar i j t) (fun Y hY => ?_) fun S0 H0 Dn σ S H g hh po => ?_
  · have hn := F.hN Y hY
    have hk := F.hkd Y hY
    exact ps_par (F.hc hcm Y hY) (by rw [hn]; exact F.nd) (by rw [hn]; exact hi) (by rw [hn]; exact hj) hij (by rw [hk]; exact hx) (by rw [hk]; exact hy) (p Y hY) (hw Y hY) (hs Y hY)
  · have pb := opo_bind g hh w po
    cases hm : mlist [ma, mb] with
    | stk => rw [hm] at pb; exact False.elim pb
    | exn e => refine f H0 σ S H _ hh ?_; rw [hm] at pb ⊢; exact pb
    | ok ds =>
      obtain ⟨u, v, rfl⟩ := mlist2 hm
      rw [hm] at pb
      refine f H0 σ S H _ hh ?_
      rw [hm]
      refine fun S1 H1 gg vs r => ?_
      obtain ⟨g1, h1, p1⟩ := pb S1 H1 gg
      obtain ⟨a', b', rfl, ra, rb⟩ := reps2 r
      exact ⟨a', b', rfl, (hr u v).c S0 H0 Dn _ S1 H1 g1 ((h1.set ra).set rb) p1⟩
theorem reps3 {G : GG} {S : Hp} {vs : List V} {d e g : D} (r : Reps G S vs [d, e, g]) : ∃ v w u, vs = [v, w, u] ∧ Rep G S v d ∧ Rep G S w e ∧ Rep G S u g := by
  cases r with
  | cons h r =>
    obtain ⟨w, u, rfl, a, b⟩ := reps2 r
    exact ⟨_, w, u, rfl, h, a, b⟩
theorem bm_par3 (i j l : Nat) {x y z : Str} {a b c : Expr} {ma mb mc : M D} {px py pz pt : Pos} {kt k2 pt2} {k : D → D → D → Ctl X S} (ha : AM F [a, b, c] Γ (mlist [ma, mb, mc])) (w : Weak Γ (fx x0)) (hr : ∀ u v t, BM F rest (((Γ.set i (Sl.val u)).set j (Sl.val v)).set l (Sl.val t)) ((k u v t).out fx fs))
    (hcm : F.cm = true) (hi : F.N[i]? = some x) (hj : F.N[j]? = some y) (hl : F.N[l]? = some z) (hij : i ≠ j) (hil : i ≠ l) (hjl : j ≠ l) (hx : F.kd.lookup x = some .local) (hy : F.kd.lookup y = some .local) (hz : F.kd.lookup z = some .local)
    (hw : ∀ Y, F.Xs Y → swappedStores [.Tuple [.Name x px, .Name y py, .Name z pz] kt pt] (.Tuple [a, b, c] k2 pt2) Y.env = pure (some [x, y, z]))
    (hs : ∀ Y, F.Xs Y → swapsWithSole [.Tuple [.Name x px, .Name y py, .Name z pz] kt pt] (.Tuple [a, b, c] k2 pt2) pos.line Y.env = pure false := by intros; rfl) :
    BM F (.Assign [.Tuple [.Name x px, .Name y py, .Name z pz] kt pt] (.Tuple [a, b, c] k2 pt2) pos :: rest) Γ (((mlist [ma, mb, mc]).bindC x0 fun ds => unL3 .stk ds k).out fx fs) := by
  obtain ⟨t, p, f⟩ := ha
  refine bm_cons (t := tPar3 i j l t) (fun Y hY => ?_) fun S0 H0 Dn σ S H g hh po => ?_
  · have hn := F.hN Y hY
    have hk := F.hkd Y hY
    exact ps_par3 (F.hc hcm Y hY) (by rw [hn]; exact F.nd) (by rw [hn]; exact hi) (by rw [hn]; exact hj) (by rw [hn]; exact hl) hij hil hjl (by rw [hk]; exact hx) (by rw [hk]; exact hy) (by rw [hk]; exact hz) (p Y hY) (hw Y hY) (hs Y hY)
  · have pb := opo_bind g hh w po
    cases hm : mlist [ma, mb, mc] with
    | stk => rw [hm] at pb; exact False.elim pb
    | exn e => refine f H0 σ S H _ hh ?_; rw [hm] at pb ⊢; exact pb
    | ok ds =>
      obtain ⟨u, v, t', rfl⟩ := mlist3 hm
      rw [hm] at pb
      refine f H0 σ S H _ hh ?_
      rw [hm]
      refine fun S1 H1 gg vs r => ?_
      obtain ⟨g1, h1, p1⟩ := pb S1 H1 gg
      obtain ⟨a', b', c', rfl, ra, rb, rc⟩ := reps3 r
      exact ⟨a', b', c', rfl, (hr u v t').c S0 H0 Dn _ S1 H1 g1 (((h1.set ra).set rb).set rc) p1⟩

/-! ### chains of three -/
def tChain3 (r r' r'' : R2) (ta tb tc td : TE) : TE := fun σ H Q => ta σ H fun x H1 => tb σ H1 fun y H2 => r x y H2 fun z H3 => ∃ k, z = .bl k ∧
  (if k = true then tc σ H3 fun w H4 => r' y w H4 fun z2 H5 => ∃ k2, z2 = .bl k2 ∧ (if k2 = true then td σ H5 fun v H6 => r'' w v H6 Q else Q (.bl false) H5) else Q (.bl false) H3)
theorem pe_chain3 {X : Cx} {a b c d : Expr} {op op' op'' : CmpOp} {r r' r'' : R2} {ta tb tc td : TE} (ho : OpR X (compareOp op) r) (ho' : OpR X (compareOp op') r') (ho'' : OpR X (compareOp op'') r'') (ha : PE X a ta) (hb : PE X b tb) (hc : PE X c tc) (hd : PE X d td)
    (hm : lastMarks [op, op', op''] [b, c, d] = false := by with_unfolding_all rfl) : PE X (.Compare a [op, op', op''] [b, c, d] pos) (tChain3 r r' r'' ta tb tc td) := by
  refine ⟨fun pins s σ H Q I h => ?_⟩
  refine PyProof.Rows.Compare_chain (thn (ha.run pins s σ H _ I h) fun v s1 ⟨x, H1, I1, r1, q1⟩ => PyProof.Rows.chain_link (thn (hb.run pins s1 σ H1 _ I1 q1) fun u s2 ⟨y, H2, I2, r2, q2⟩ =>
    thn (ho pins s2 σ H2 x y v u _ I2 r1 r2 q2) fun d s3 ⟨z, H3, I3, r3, k, e, q3⟩ => ?_)) hm
  subst e
  cases r3
  refine wpAny_truthy_bool ?_
  cases k with
  | false => exact PyProof.Rows.ite_ff ⟨.bl false, H3, I3, rfl, q3⟩
  | true =>
    refine PyProof.Rows.ite_tt (PyProof.Rows.chain_link (thn (hc.run pins s3 σ H3 _ I3 q3) fun w' s4 ⟨z', H4, I4, r4, q4⟩ => thn (ho' pins s4 σ H4 y z' u w' _ I4 r2 r4 q4) fun d' s5 ⟨z2, H5, I5, r5, k2, e2, q5⟩ => ?_))
    subst e2
    cases r5
    refine wpAny_truthy_bool ?_
    cases k2 with
    | false => exact PyProof.Rows.ite_ff ⟨.bl false, H5, I5, rfl, q5⟩
    | true => exact PyProof.Rows.ite_tt (PyProof.Rows.chain_last (thn (hd.run pins s5 σ H5 _ I5 q5) fun w6 s6 ⟨z6, H6, I6, r6, q6⟩ => ho'' pins s6 σ H6 z' z6 w' w6 Q I6 r4 r6 q6))
theorem pt_chain3 {X : Cx} {a b c d : Expr} {op op' op'' : CmpOp} {r r' r'' : R2} {ta tb tc td : TE} (ho : OpR X (compareOp op) r) (ho' : OpR X (compareOp op') r') (ho'' : OpR X (compareOp op'') r'') (ha : PE X a ta) (hb : PE X b tb) (hc : PE X c tc) (hd : PE X d td)
    (hm : lastMarks [op, op', op''] [b, c, d] = false := by with_unfolding_all rfl) : PT X (.Compare a [op, op', op''] [b, c, d] pos) (tTest (tChain3 r r' r'' ta tb tc td)) := by
  refine ⟨fun pins s σ H Q I h => ?_⟩
  refine PyProof.Rows.isTrue_chain (thn (ha.run pins s σ H _ I h) fun v s1 ⟨x, H1, I1, r1, q1⟩ => PyProof.Rows.test_link (thn (hb.run pins s1 σ H1 _ I1 q1) fun u s2 ⟨y, H2, I2, r2, q2⟩ =>
    thn (ho pins s2 σ H2 x y v u _ I2 r1 r2 q2) fun d s3 ⟨z, H3, I3, r3, k, e, q3⟩ => ?_)) hm
  subst e
  cases r3
  refine wpAny_truthy_bool ?_
  cases k with
  | false =>
    obtain ⟨k', e', q'⟩ := q3
    cases e'
    exact PyProof.Rows.ite_ff ⟨H3, I3, q'⟩
  | true =>
    refine PyProof.Rows.ite_tt (PyProof.Rows.test_link (thn (hc.run pins s3 σ H3 _ I3 q3) fun w' s4 ⟨z', H4, I4, r4, q4⟩ => thn (ho' pins s4 σ H4 y z' u w' _ I4 r2 r4 q4) fun d' s5 ⟨z2, H5, I5, r5, k2, e2, q5⟩ => ?_))
    subst e2
    cases r5
    refine wpAny_truthy_bool ?_
    cases k2 with
    | false =>
      obtain ⟨k', e', q'⟩ := q5
      cases e'
      exact PyProof.Rows.ite_ff ⟨H5, I5, q'⟩
    | true =>
      refine PyProof.Rows.ite_tt (PyProof.Rows.test_last (thn (hd.run pins s5 σ H5 _ I5 q5) fun w6 s6 ⟨z6, H6, I6, r6, q6⟩ => thn (ho'' pins s6 σ H6 z' z6 w' w6 _ I6 r4 r6 q6) fun d6 s7 ⟨z7, H7, I7, r7, k7, e7, q7⟩ => ?_))
      subst e7
      cases r7
      exact wpAny_truthy_bool ⟨H7, I7, q7⟩
def chM3 (f g h : D → D → M D) (a b c d : M D) : M D := a.bind fun x => b.bind fun y => (f x y).bind fun z => (isB z).bind fun k => if k = true then c.bind fun w => (g y w).bind fun z2 => (isB z2).bind fun k2 => if k2 = true then d.bind fun v => h w v else .ok (.bl false) else .ok (.bl false)
theorem ev_chain3 {ma mb mc md : M D} {r r' r'' : R2} {f g h : D → D → M D} {ta tb tc td : TE} (hf : RM F r f) (hg : RM F r' g) (hk : RM F r'' h) (ea : EvM F ta Γ ma) (eb : EvM F tb Γ mb) (ec : EvM F tc Γ mc) (ed : EvM F td Γ md) : EvM F (tChain3 r r' r'' ta tb tc td) Γ (chM3 f g h ma mb mc md) := by
  intro H0 σ S H Q hh p
  refine ea H0 σ S H _ hh (Po.bind p |>.imp fun x S1 H1 g1 q1 vx rx => ?_)
  refine eb H0 σ S1 H1 _ (hh.grow g1) (Po.bind q1 |>.imp fun y S2 H2 g2 q2 vy ry => ?_)
  refine hf x y vx vy σ S2 H2 _ g2.sub (rx.mono g2.s) ry (Po.bind q2 |>.imp fun z S3 H3 g3 q3 vz rz => ?_)
  obtain ⟨k, rfl, q3⟩ := isB_of g3.sub rz q3
  refine ⟨k, rfl, ?_⟩
  cases k with
  | false => exact iteF (Po.ok (a := D.bl false) g3.sub q3 _ (.bl _))
  | true =>
    have q3 : Po F.G (WE F.W σ) S3 H3 (KE F Q) (mc.bind fun w => (g y w).bind fun z2 => (isB z2).bind fun k2 => if k2 = true then md.bind fun v => h w v else .ok (.bl false)) := q3
    refine iteT (ec H0 σ S3 H3 _ (hh.grow (g1.trans (g2.trans g3))) (Po.bind q3 |>.imp fun w S4 H4 g4 q4 vw rw' => ?_))
    refine hg y w vy vw σ S4 H4 _ g4.sub ((ry.mono g3.s).mono g4.s) rw' (Po.bind q4 |>.imp fun z S5 H5 g5 q5 vz rz => ?_)
    obtain ⟨k2, rfl, q5⟩ := isB_of g5.sub rz q5
    refine ⟨k2, rfl, ?_⟩
    cases k2 with
    | false => exact iteF (Po.ok (a := D.bl false) g5.sub q5 _ (.bl _))
    | true =>
      have q5 : Po F.G (WE F.W σ) S5 H5 (KE F Q) (md.bind fun v => h w v) := q5
      exact iteT (ed H0 σ S5 H5 _ (hh.grow (g1.trans (g2.trans (g3.trans (g4.trans g5))))) (Po.bind q5 |>.imp fun v S6 H6 g6 q6 vv rv => hk w v vw vv σ S6 H6 Q g6.sub ((rw'.mono g5.s).mono g6.s) rv q6))
theorem em_chain3 {a b c d : Expr} {ma mb mc md : M D} {op op' op'' : CmpOp} {r r' r'' : R2} {f g h : D → D → M D} (ho : ∀ X, F.Xs X → OpR X (compareOp op) r) (hf : RM F r f) (ho' : ∀ X, F.Xs X → OpR X (compareOp op') r') (hg : RM F r' g) (ho'' : ∀ X, F.Xs X → OpR X (compareOp op'') r'') (hk : RM F r'' h)
    (ha : EM F a Γ ma) (hb : EM F b Γ mb) (hc : EM F c Γ mc) (hd : EM F d Γ md) (hm : lastMarks [op, op', op''] [b, c, d] = false := by with_unfolding_all rfl) : EM F (.Compare a [op, op', op''] [b, c, d] pos) Γ (chM3 f g h ma mb mc md) := by
  obtain ⟨ta, pa, ea⟩ := ha
  obtain ⟨tb, pb, eb⟩ := hb
  obtain ⟨tc, pc, ec⟩ := hc
  obtain ⟨td, pd, ed⟩ := hd
  exact ⟨_, fun X hX => pe_chain3 (ho X hX) (ho' X hX) (ho'' X hX) (pa X hX) (pb X hX) (pc X hX) (pd X hX) hm, ev_chain3 hf hg hk ea eb ec ed⟩
theorem tm_chain3 {a b c d : Expr} {ma mb mc md : M D} {op op' op'' : CmpOp} {r r' r'' : R2} {f g h : D → D → M D} (ho : ∀ X, F.Xs X → OpR X (compareOp op) r) (hf : RM F r f) (ho' : ∀ X, F.Xs X → OpR X (compareOp op') r') (hg : RM F r' g) (ho'' : ∀ X, F.Xs X → OpR X (compareOp op'') r'') (hk : RM F r'' h)
    (ha : EM F a Γ ma) (hb : EM F b Γ mb) (hc : EM F c Γ mc) (hd : EM F d Γ md) (hm : lastMarks [op, op', op''] [b, c, d] = false := by with_unfolding_all rfl) : TM F (.Compare a [op, op', op''] [b, c, d] pos) Γ (b1 isB (chM3 f g h ma mb mc md)) := by
  obtain ⟨ta, pa, ea⟩ := ha
  obtain ⟨tb, pb, eb⟩ := hb
  obtain ⟨tc, pc, ec⟩ := hc
  obtain ⟨td, pd, ed⟩ := hd
  refine ⟨_, fun X hX => pt_chain3 (ho X hX) (ho' X hX) (ho'' X hX) (pa X hX) (pb X hX) (pc X hX) (pd X hX) hm, fun H0 σ S H Q hh p => ?_⟩
  refine ev_chain3 hf hg hk ea eb ec ed H0 σ S H _ hh (Po.bind p |>.imp fun d S' H' g q v r => ?_)
  cases r with
  | bl k => exact ⟨k, rfl, Po.ok g.sub q⟩
  | _ => exact False.elim q
end
end Mir
namespace L2
open PySem PySem.Spec PyProof.Rows

/-! ### a comprehension of any number of clauses -/
def tTurn (ifs : List Expr) (t0 i0 : Expr) (bd nxt : Sem Fin) (it : Value) (env : Env) : Sem Fin := do
  standAt i0.pos
  match ← pyNext it with
  | none => pure (.done .next)
  | some v =>
    letOwnedTupleGo t0 it v
    assign t0 env v
    let mut ok := true
    for c in ifs do
      if ok then ok ← isTrue c env (eval c env)
    if ok then bd else nxt
def bdOut (E i1 : Expr) (k : Nat) (it acc : Value) (env : Env) : Sem Fin := do
  let x ← eval i1 env
  standAt i1.pos
  let x ← foldedSetIterable i1 env x
  let _ ← runOwn (.compStart E (k + 1) (← holding [x] (pyIter x)) acc env) env
  again (.compLoop E k it acc env)
def bdIn (E elt : Expr) (k : Nat) (it acc : Value) (env : Env) : Sem Fin := do
  (do let _ ← call (.builtin "list.append") [acc, ← eval elt env])
  again (.compLoop E k it acc env)
section
variable {elt t0 i0 t1 i1 t2 i2 : Expr} {ifs0 ifs1 ifs2 : List Expr} {scope : Scope} {pos : Pos}
theorem turn2_0 (it acc : Value) (env : Env) : compTurn (.ListComp elt [⟨t0, i0, ifs0, 0⟩, ⟨t1, i1, ifs1, 0⟩] scope pos) 0 it acc env =
    tTurn ifs0 t0 i0 (bdOut (.ListComp elt [⟨t0, i0, ifs0, 0⟩, ⟨t1, i1, ifs1, 0⟩] scope pos) i1 0 it acc env) (again (.compLoop (.ListComp elt [⟨t0, i0, ifs0, 0⟩, ⟨t1, i1, ifs1, 0⟩] scope pos) 0 it acc env)) it env := by rfl
theorem turn2_1 (it acc : Value) (env : Env) : compTurn (.ListComp elt [⟨t0, i0, ifs0, 0⟩, ⟨t1, i1, ifs1, 0⟩] scope pos) 1 it acc env =
    tTurn ifs1 t1 i1 (bdIn (.ListComp elt [⟨t0, i0, ifs0, 0⟩, ⟨t1, i1, ifs1, 0⟩] scope pos) elt 1 it acc env) (again (.compLoop (.ListComp elt [⟨t0, i0, ifs0, 0⟩, ⟨t1, i1, ifs1, 0⟩] scope pos) 1 it acc env)) it env := by rfl
theorem turn3_0 (it acc : Value) (env : Env) : compTurn (.ListComp elt [⟨t0, i0, ifs0, 0⟩, ⟨t1, i1, ifs1, 0⟩, ⟨t2, i2, ifs2, 0⟩] scope pos) 0 it acc env =
    tTurn ifs0 t0 i0 (bdOut (.ListComp elt [⟨t0, i0, ifs0, 0⟩, ⟨t1, i1, ifs1, 0⟩, ⟨t2, i2, ifs2, 0⟩] scope pos) i1 0 it acc env) (again (.compLoop (.ListComp elt [⟨t0, i0, ifs0, 0⟩, ⟨t1, i1, ifs1, 0⟩, ⟨t2, i2, ifs2, 0⟩] scope pos) 0 it acc env)) it env := by rfl
theorem turn3_1 (it acc : Value) (env : Env) : compTurn (.ListComp elt [⟨t0, i0, ifs0, 0⟩, ⟨t1, i1, ifs1, 0⟩, ⟨t2, i2, ifs2, 0⟩] scope pos) 1 it acc env =
    tTurn ifs1 t1 i1 (bdOut (.ListComp elt [⟨t0, i0, ifs0, 0⟩, ⟨t1, i1, ifs1, 0⟩, ⟨t2, i2, ifs2, 0⟩] scope pos) i2 1 it acc env) (again (.compLoop (.ListComp elt [⟨t0, i0, ifs0, 0⟩, ⟨t1, i1, ifs1, 0⟩, ⟨t2, i2, ifs2, 0⟩] scope pos) 1 it acc env)) it env := by rfl
theorem turn3_2 (it acc : Value) (env : Env) : compTurn (.ListComp elt [⟨t0, i0, ifs0, 0⟩, ⟨t1, i1, ifs1, 0⟩, ⟨t2, i2, ifs2, 0⟩] scope pos) 2 it acc env =
    tTurn ifs2 t2 i2 (bdIn (.ListComp elt [⟨t0, i0, ifs0, 0⟩, ⟨t1, i1, ifs1, 0⟩, ⟨t2, i2, ifs2, 0⟩] scope pos) elt 2 it acc env) (again (.compLoop (.ListComp elt [⟨t0, i0, ifs0, 0⟩, ⟨t1, i1, ifs1, 0⟩, ⟨t2, i2, ifs2, 0⟩] scope pos) 2 it acc env)) it env := by rfl
end
section
variable {prog : Program} {w : World} {A : Around} {R : Result → Shared → Prop} {s : Shared} {elt t0 i0 : Expr} {gs : List Comprehension} {ifs0 : List Expr} {scope : Scope} {pos : Pos} {it acc : Value} {env : Env} {k : Nat}
theorem compLoopG {bd : Sem Fin} (hT : compTurn (.ListComp elt gs scope pos) k it acc env = tTurn ifs0 t0 i0 bd (again (.compLoop (.ListComp elt gs scope pos) k it acc env)) it env) (I : Nat → Shared → Prop)
    (turn : ∀ n s, I n s → wpAny (model prog w) A (pyNext it) (fun r s₁ => match r with
      | none => R (.ok .next) s₁
      | some v => wpAny (model prog w) A (letOwnedTupleGo t0 it v) (fun _ s₁' => wpAny (model prog w) A (assign t0 env v) (fun _ s₂ =>
          wpAny (model prog w) A (forIn ifs0 true fun c r => if r = true then do let ok ← isTrue c env (eval c env); pure (ForInStep.yield ok) else pure (ForInStep.yield r)) (fun ok s₃ =>
            if ok = true then wpAny (model prog w) A bd (fun f s' => f = .again (.compLoop (.ListComp elt gs scope pos) k it acc env) ∧ ∃ m, m < n ∧ I m s') (notedBy (model prog w) A env fun e s' => R (.error e) s') s₃
            else ∃ m, m < n ∧ I m s₃) (notedBy (model prog w) A env fun e s' => R (.error e) s') s₂) (notedBy (model prog w) A env fun e s' => R (.error e) s') s₁') (notedBy (model prog w) A env fun e s' => R (.error e) s') s₁) (notedBy (model prog w) A env fun e s' => R (.error e) s') s)
    (n : Nat) (h : I n s) : codeAny (model prog w) A (.compLoop (.ListComp elt gs scope pos) k it acc env) R s := by
  refine codeAny_loop rfl I (fun n s hI => ?_) n h
  show wpAny _ A ((compTurn (.ListComp elt gs scope pos) k it acc env).onRaise (fun x => do noteFrame x env; theTreesLotGoes x)) _ _ s
  refine wpAny_noted ?_
  rw [hT]
  unfold tTurn
  refine wpAny_bind (wpAny_standAt (wpAny_bind (wpAny_mono (turn n s hI) (fun r s₁ h₁ => ?_) fun _ _ h' => h')))
  cases r with
  | none => exact wpAny_pure h₁
  | some v =>
    refine wpAny_bind (wpAny_mono h₁ (fun _ s₁' h₁' => ?_) fun _ _ h' => h')
    refine wpAny_bind (wpAny_mono h₁' (fun _ s₂ h₂ => wpAny_bind (wpAny_mono h₂ (fun ok s₃ h₃ => ?_) fun _ _ h' => h')) fun _ _ h' => h')
    cases ok with
    | false => exact wpAny_pure ⟨rfl, h₃⟩
    | true =>
      refine wpAny_mono h₃ (fun f s₄ h₄ => ?_) fun _ _ h' => h'
      obtain ⟨rfl, h₄⟩ := h₄
      exact ⟨rfl, h₄⟩
theorem compStartG {E : Expr} {g : Comprehension} (hE : E = .ListComp elt gs scope pos) (hk : gs[k]? = some g) (ha : (g.is_async != 0) = false) (h0 : codeAny (model prog w) A (.compLoop E k it acc env) R s)
    (h : wpAny (model prog w) A (pyIter it) (fun it' s' => codeAny (model prog w) A (.compLoop E k it' acc env) R s')
      (notedBy (model prog w) A env fun x s' => R (.error x) s') s) :
    codeAny (model prog w) A (.compStart E k it acc env) R s := by
  subst hE
  refine codeAny_of_tree ?_
  show wpAny _ _ ((compStart (.ListComp elt gs scope pos) k it acc env).onRaise (fun x => do noteFrame x env; standAt theWindowsPlace)) _ _ s
  refine wpAny_notedAt ?_
  unfold compStart
  rw [show clausesOf (.ListComp elt gs scope pos) = gs from rfl, hk]
  simp only [Option.elim, ha]
  show wpAny _ _ (ask >>= _) _ _ s
  refine wpAny_bind (wpAny_askSetting (wpAny_ite ?_))
  split
  · first
      | exact wpAny_bind (wpAny_pure (wpAny_pure (And.intro rfl h0)))
      | exact wpAny_pure (And.intro rfl h0)
  · first
      | exact wpAny_bind (wpAny_rule (wpAny_bind (wpAny_standAt (wpAny_bind (wpAny_mono h (fun it' s' h' => wpAny_pure (And.intro rfl h')) fun _ _ x => x)))))
      | (refine wpAny_bind (wpAny_rule ?_); show wpAny _ _ (standAt g.iter.pos >>= _) _ _ s; exact wpAny_bind (wpAny_standAt (wpAny_bind (wpAny_mono h (fun it' s' h' => wpAny_pure (And.intro rfl h')) fun _ _ x => x))))
end

abbrev TB := St → Hp → (Hp → Prop) → Prop
/-- behind the tests of a clause: all that the later ones do -/
def PBd (Y : Cx) (bd : Sem Fin) (c : Code) (vs : List Nat) (tb : TB) : Prop :=
  ∀ pins s σ H (Nx : Hp → Prop), Inv Y pins σ H s → tb σ H Nx → wpAny (model Y.prog Y.w) Y.A bd (fun f s' => f = .again c ∧ ∃ H', Inv Y pins (wipe σ vs) H' s' ∧ Nx H') (fun _ _ => False) s
def tEl (te : TE) (D : Addr) : TB := fun σ H Nx => te σ H fun y H7 => ∃ acc, H7 D = some (.lst acc) ∧ acc.length < sizeLine ∧ Nx (upd H7 D (.lst (acc ++ [y])))
def tIn (wi : TI) (g : TG) (tt : TT) (tb : TB) (vs : List Nat) : TB := fun σ H Nx => wi σ H fun J H1 => ∃ W : Nat → Nat → Hp → Prop, (∃ m, W 0 m H1) ∧ ∀ j k H, W j k H →
  (J.stop j H ∧ Nx H) ∨ (J.go j H ∧ ∃ Nx1 : Hp → Prop, (∀ H', Nx1 H' → ∃ k', k' < k ∧ W (j + 1) k' H') ∧ ∀ x H', J.yld j H x H' → g x (wipe σ vs) H' fun σ3 H5 => wipe σ3 vs = wipe σ vs ∧ tt σ3 H5 fun b H6 =>
    if b = true then tb σ3 H6 Nx1 else Nx1 H6)
def tLcN (wi : TI) (g : TG) (tt : TT) (tb : Addr → TB) (vs : List Nat) : TE := fun σ H Q => wi σ H fun J H1 => ∀ D, H1 D = none → ∃ W : Nat → Nat → Hp → Prop, (∃ m, W 0 m (upd H1 D (.lst []))) ∧ ∀ i m H, W i m H →
  (J.stop i H ∧ Q (.ref D) H) ∨ (J.go i H ∧ ∃ Nx : Hp → Prop, (∀ H', Nx H' → ∃ m', m' < m ∧ W (i + 1) m' H') ∧ ∀ x H', J.yld i H x H' → g x (wipe σ vs) H' fun σ2 H2 => wipe σ2 vs = wipe σ vs ∧ tt σ2 H2 fun b H3 =>
    if b = true then tb D σ2 H3 Nx else Nx H3)
section
variable {X : Cx}
theorem pbd_in {E elt : Expr} {k : Nat} {it : Value} {D : Addr} {s : Shared} {H : Hp} {scope : Scope} {ce : Env} {fp : List Addr} {te : TE} (he : PE (X.blk s H scope ce fp) elt te) : PBd (X.blk s H scope ce fp) (bdIn E elt k it (.ref D) ce) (.compLoop E k it (.ref D) ce) [] (tEl te D) := by
  intro pins s1 σ H1 Nx I h
  unfold bdIn
  refine wpAny_bind (wpAny_bind (thnF (he.run _ s1 σ H1 _ I h) fun z s17 ⟨yv, H17, I17, r17, acc, hD17, hz17, nx⟩ => ?_))
  refine wpAny_bind (app_ok (X := X.blk s H scope ce fp) I17 hD17 hz17 r17 fun s18 I18 => ?_)
  exact wpAny_pure (wpAny_pure ⟨rfl, _, I18, nx⟩)
theorem pbd_out {E elt : Expr} {gs : List Comprehension} {pos : Pos} {k : Nat} {it : Value} {D : Addr} {s3 : Shared} {H3 : Hp} {scope sc : Scope} {ce : Env} {fp0 : List Addr} {tg1 i1 : Expr} {ifs1 : List Expr} {bd1 : Value → Sem Fin} {vs1 vs2 : List Nat} {wi1 : TI} {g1 : TG} {tt1 : TT} {tb1 : TB}
    (hE : E = .ListComp elt gs sc pos) (hk : gs[k + 1]? = some ⟨tg1, i1, ifs1, 0⟩) (hc : X.calm = true)
    (hT : ∀ it, compTurn E (k + 1) it (.ref D) ce = tTurn ifs1 tg1 i1 (bd1 it) (again (.compLoop E (k + 1) it (.ref D) ce)) it ce)
    (hv : ∀ i ∈ vs2, i ∈ vs1) (hs1 : ∀ x, foldedSetIterable i1 ce x = pure x) (pi1 : PI (X.blk s3 H3 scope ce fp0) tg1 i1 wi1) (pg1 : PG (X.blk s3 H3 scope ce fp0) tg1 g1) (pt1 : PTs (X.blk s3 H3 scope ce fp0) ifs1 tt1)
    (hb : ∀ it, PBd (X.blk s3 H3 scope ce fp0) (bd1 it) (.compLoop E (k + 1) it (.ref D) ce) vs2 tb1) :
    PBd (X.blk s3 H3 scope ce fp0) (bdOut E i1 k it (.ref D) ce) (.compLoop E k it (.ref D) ce) vs1 (tIn wi1 g1 tt1 tb1 vs1) := by
  subst hE
  intro pins s9 σ8 H9 Nx I9 q9
  unfold bdOut
  refine wpAny_bind (thnF (pi1.run _ s9 σ8 H9 _ I9 q9) fun xv s10 hx => ?_)
  refine wpAny_bind (wpAny_standAt (wpAny_bind (wpAny_of_eq (hs1 xv) (wpAny_bind (wpAny_holding (thnF hx fun itv s11 h11 => ?_))))))
  obtain ⟨it1, fp1, tn1, J1, H11, e1, I11, T1, st11, f11, W1, ⟨m1, w1⟩, turn1⟩ := h11
  subst e1
  refine wpAny_bind (wpAny_runOwn ?_)
  rw [Around.mark_none]
  have stat1 : ∀ {H' : Hp}, (∀ b ∈ fp1, H' b = none) → ∀ b ∈ fp1, FpOk (X.blk s3 H3 scope ce fp0) pins H' b := fun hn b hb => ⟨hn b hb, (f11 b hb).2⟩
  have loop1 : codeAny (model X.prog X.w) X.A (.compLoop (.ListComp elt gs sc pos) (k + 1) (.ref it1) (.ref D) ce)
      (fun r s' => match r with
        | .ok _ => ∃ H', Inv (X.blk s3 H3 scope ce fp0) pins (wipe σ8 vs1) H' s' ∧ Nx H'
        | .error _ => False) s11 := by
    refine compLoopG (hT (.ref it1)) (fun n s' => ∃ j H', Inv (X.blk s3 H3 scope ce fp0) pins (wipe σ8 vs1) H' s' ∧ tn1 j s'.heap ∧ (∀ b ∈ fp1, H' b = none) ∧ W1 j n H') ?_ m1 ⟨0, H11, I11.weak (wipe_length _ _) (fun j v e => (wipe_some e).1), st11, fun b hb => (f11 b hb).1, w1⟩
    rintro n s12 ⟨j, H12, I12, st12, n12, w12⟩
    rcases turn1 j n H12 w12 with ⟨stop1, nx1⟩ | ⟨go1, Nx1, hNx1, step1⟩
    · refine thnF (T1.done (X.blk s3 H3 scope ce fp0) rfl rfl rfl hc j _ s12 (wipe σ8 vs1) H12 (fun _ _ => False) I12 (stat1 n12) st12 stop1) fun r s13 ⟨hr, I13⟩ => ?_
      subst hr
      exact ⟨_, I13, nx1⟩
    · refine thnF (T1.item (X.blk s3 H3 scope ce fp0) rfl rfl rfl hc j _ s12 (wipe σ8 vs1) H12 (fun _ _ => False) I12 (stat1 n12) st12 go1) fun r s13 ⟨u1, hr, h13⟩ => ?_
      subst hr
      refine thnF h13 fun _ s14 ⟨x1, H14, I14, r14, y14, st14, n14⟩ => ?_
      have I14' := I14.pinned (stat1 n14) (T1.obj _ _ st14)
      refine thnF (pg1.run _ s14 (wipe σ8 vs1) H14 x1 u1 _ I14' r14 (step1 x1 H14 y14)) fun _ s15 ⟨σ15, H15, I15, hw15, q15⟩ => ?_
      refine thnF (pt1.run _ s15 σ15 H15 _ I15 q15) fun b1 s16 ⟨H16, I16, q16⟩ => ?_
      have fin1 : ∀ {σ9 : St} {s' : Shared} {H' : Hp}, Inv (X.blk s3 H3 scope ce fp0) (pins ++ pinsAt fp1 s14.heap) σ9 H' s' → (wipe σ8 vs1).length = σ9.length → (∀ (j : Nat) v, (wipe σ8 vs1)[j]? = some (some v) → σ9[j]? = some (some v)) → Nx1 H' → ∃ m, m < n ∧ ∃ j H', Inv (X.blk s3 H3 scope ce fp0) pins (wipe σ8 vs1) H' s' ∧ tn1 j s'.heap ∧ (∀ b ∈ fp1, H' b = none) ∧ W1 j m H' := fun {σ9 s' H'} I' hl hk nx => by
        obtain ⟨m', hm, w'⟩ := hNx1 H' nx
        have pin' : ∀ b ∈ fp1, ∀ o, s14.heap.get? b = some o → s'.heap.get? b = some o ∧ H' b = none := fun b hb o e =>
          let z := I'.pin (b, o) (List.mem_append_right _ (List.mem_append_right _ (mem_pinsAt hb e)))
          ⟨z.1, z.2.1⟩
        refine ⟨m', hm, j + 1, H', I'.unpinned.weak hl hk, T1.keep _ _ _ st14 fun b hb o e => (pin' b hb o e).1, fun b hb => ?_, w'⟩
        obtain ⟨o, e, _⟩ := T1.obj _ _ st14 b hb
        exact (pin' b hb o e).2
      have hl15 : (wipe σ8 vs1).length = σ15.length := by rw [← hw15, wipe_length]
      have hk15 : ∀ (j : Nat) v, (wipe σ8 vs1)[j]? = some (some v) → σ15[j]? = some (some v) := fun j v e => by rw [← hw15] at e; exact (wipe_some e).1
      cases b1 with
      | false =>
        simp only [Bool.false_eq_true, if_false] at q16 ⊢
        exact fin1 I16 hl15 hk15 q16
      | true =>
        simp only [if_true] at q16 ⊢
        refine thnF (hb (.ref it1) _ s16 σ15 H16 _ I16 q16) fun f s17 ⟨hf, H17, I17, nx⟩ => ?_
        refine ⟨hf, fin1 I17 (hl15.trans (wipe_length σ15 vs2).symm) (fun j v e => ?_) nx⟩
        have e0 := e
        rw [← hw15] at e0
        obtain ⟨e1, e2⟩ := wipe_some e0
        rw [wipe_out fun z => e2 (hv j z)]
        exact e1
  refine codeAny_mono (compStartG rfl hk rfl loop1 (T1.self X.A 0 _ _ _ st11 loop1)) fun r s' hr => ?_
  cases r with
  | ok f =>
    first
      | exact wpAny_pure ⟨rfl, hr⟩
      | exact wpAny_bind (wpAny_pure (wpAny_pure ⟨rfl, hr⟩))
  | error e => exact hr.elim
end

section
variable {X : Cx}
/-- the family of a block's bodies -/
abbrev BdFam (X : Cx) (scope : Scope) (bd : Addr → Value → Env → Sem Fin) (E : Expr) (vs : List Nat) (tb : Addr → TB) : Prop :=
  ∀ (s : Shared) (H : Hp) (C : Addr) (cl : List (Str × Addr)) (fp : List Addr) (D : Addr) (it : Value), PBd (X.blk s H scope (compEnvC scope cl C X.env) fp) (bd D it (compEnvC scope cl C X.env)) (.compLoop E 0 it (.ref D) (compEnvC scope cl C X.env)) vs (tb D)
theorem lcG_core {pins : List (Addr × Obj)} {s : Shared} {σ : St} {H : Hp} {Q : VK} {elt tg iter : Expr} {ifs : List Expr} {rest : List Comprehension} {scope : Scope} {own : List (Str × Nat)} {vs1 : List Nat} {pos pos' : Pos} {wi : TI} {g : TG} {tt : TT} {tb : Addr → TB} {bd : Addr → Value → Env → Sem Fin} {use : Option (Value → Sem Unit)} {Qf : Value → Shared → Prop}
    (hT : ∀ D it env, compTurn (.ListComp elt (⟨tg, iter, ifs, 0⟩ :: rest) scope pos) 0 it (.ref D) env = tTurn ifs tg iter (bd D it env) (again (.compLoop (.ListComp elt (⟨tg, iter, ifs, 0⟩ :: rest) scope pos) 0 it (.ref D) env)) it env)
    (hc : X.calm = true) (hN : X.N.Nodup) (I : Inv X pins σ H s) (hi : PI X tg iter wi) (ok : BlkOk X.N X.env.scope scope own) (hv : ∀ i ∈ vs1, i ∈ own.map (·.2))
    (hg : ∀ (s : Shared) (H : Hp) (C : Addr) (cl : List (Str × Addr)) (fp : List Addr), PG (X.blk s H scope (compEnvC scope cl C X.env) fp) tg g) (ht : ∀ (s : Shared) (H : Hp) (C : Addr) (cl : List (Str × Addr)) (fp : List Addr), PTs (X.blk s H scope (compEnvC scope cl C X.env) fp) ifs tt)
    (hb : BdFam X scope bd (.ListComp elt (⟨tg, iter, ifs, 0⟩ :: rest) scope pos) vs1 tb) (hs : ∀ x, foldedSetIterable iter X.env x = pure x)
    (h : tLcN wi g tt tb (own.map (·.2)) σ H Q)
    (hRR : ∀ D C s' m H', Inv X pins σ H' s' → Q (.ref D) H' → s'.heap.Ns C m → FpOk X pins H' C → compPost (model X.prog X.w) X.A X.xe use Qf (.ref D) C (.ok .next) s') :
    wpAny (model X.prog X.w) X.A (comprehension (.ListComp elt (⟨tg, iter, ifs, 0⟩ :: rest) scope pos) scope X.env pos' (newList []) false (eval iter X.env) use) Qf X.xe s := by
  have hfree : ∀ y ∈ scope.names, y.2 = .free → ∃ c, X.env.cells.lookup y.1 = some c := fun y hy e => by
    rcases ok.free y hy e with k | k
    · exact I.ok.has _ (.inl k)
    · exact I.ok.has _ (.inr k)
  refine wpAny_comprehension_free (use := use) rfl hs (closure_ok hfree) ok.kind (fun y hy e => by rw [ok.uniq y hy, e])
    (thn (hi.run pins s σ H _ I h) fun xv s1 hx => thn hx fun itv s2 h2 => ?_)
  obtain ⟨it, fp, tn, J, H2, e, I2, T, st2, f2, q⟩ := h2
  subst e
  refine wpAny_newObj_type (newEnv_comp ?_) (by show 0 ≤ sizeLine; decide)
  generalize hD : s2.heap.objs.size = D
  have hDn : H2 D = none := I2.hok.fresh (Nat.le_of_eq hD)
  obtain ⟨W, ⟨m0, w0⟩, turn⟩ := q D hDn
  -- the new list
  generalize hs3 : ({ s2 with heap := s2.heap.push { cls := .type "list", data := .seq ([] : List Value).toArray } } : Shared) = s3
  have I3 : Inv X pins σ (upd H2 D (.lst [])) s3 := by
    rw [← hs3]
    refine I2.laid (t' := s2.toks) (fun b o e => Heap.get?_push_of_some _ e) (Nat.le_of_eq hD) ⟨Nat.zero_le _, [], 0, .nil, ?_⟩
    rw [← hD]
    exact Heap.get?_push_size _ rfl
  have h3 : s3.heap = s2.heap.push { cls := .type "list", data := .seq ([] : List Value).toArray } := by rw [← hs3]
  have sz : ∀ b ∈ fp, b < s2.heap.objs.size := fun b hb => by
    obtain ⟨o, e, _⟩ := T.obj _ _ st2 b hb
    exact Heap.lt_size e
  have f3 : ∀ b ∈ fp, FpOk X pins (upd H2 D (.lst [])) b ∧ b < s3.heap.objs.size := fun b hb => by
    have hlt := sz b hb
    refine ⟨⟨?_, (f2 b hb).2⟩, by rw [h3, Heap.size_push]; exact Nat.lt_succ_of_lt hlt⟩
    rw [upd_ne (by rw [← hD]; exact Nat.ne_of_lt hlt)]
    exact (f2 b hb).1
  have st3 : tn 0 s3.heap := T.keep _ _ _ st2 fun b _ o e => by rw [h3]; exact Heap.get?_push_of_some _ e
  have I4 := block_start I3 ok hN f3
  have pg := hg s3 (upd H2 D (.lst [])) s3.heap.objs.size (cellsFrom (s3.heap.objs.size + 1) scope.names (cloFrom X.env.cells scope.names [])) fp
  have pt := ht s3 (upd H2 D (.lst [])) s3.heap.objs.size (cellsFrom (s3.heap.objs.size + 1) scope.names (cloFrom X.env.cells scope.names [])) fp
  have pb := hb s3 (upd H2 D (.lst [])) s3.heap.objs.size (cellsFrom (s3.heap.objs.size + 1) scope.names (cloFrom X.env.cells scope.names [])) fp D (.ref it)
  have hT := hT D (.ref it)
  show codeAny _ _ (.compStart (.ListComp elt (⟨tg, iter, ifs, 0⟩ :: rest) scope pos) 0 (.ref it) (.ref D) (compEnvC scope (cellsFrom (s3.heap.objs.size + 1) scope.names (cloFrom X.env.cells scope.names [])) s3.heap.objs.size X.env)) (compPost (model X.prog X.w) X.A X.xe use Qf (.ref D) s3.heap.objs.size) { s3 with heap := pushCells (s3.heap.push { cls := .type "dict", data := .dict #[] }) scope.names }
  have nfp : ∀ b ∈ fp, (upd H2 D (.lst [])) b = none := fun b hb => (f3 b hb).1.1
  generalize hce : compEnvC scope (cellsFrom (s3.heap.objs.size + 1) scope.names (cloFrom X.env.cells scope.names [])) s3.heap.objs.size X.env = ce at I4 pg pt pb ⊢
  have hT := hT ce
  have cL : ce.locals = s3.heap.objs.size := by subst hce; rfl
  generalize hH3 : upd H2 D (.lst []) = H3 at I3 I4 pg pt pb w0 nfp f3
  generalize hs4 : ({ s3 with heap := pushCells (s3.heap.push { cls := .type "dict", data := .dict #[] }) scope.names } : Shared) = s4 at I4 ⊢
  have st4 : tn 0 s4.heap := T.keep _ _ _ st3 fun b _ o e => by rw [← hs4]; exact pushCells_keeps _ _ _ _ (Heap.get?_push_of_some _ e)
  have stat : ∀ {σ' : St} {H' : Hp} {s' : Shared}, Inv (X.blk s3 H3 scope ce fp) [] σ' H' s' → (∀ b ∈ fp, H' b = none) → ∀ b ∈ fp, FpOk (X.blk s3 H3 scope ce fp) [] H' b := fun {σ' H' s'} I' hn b hb =>
    ⟨hn b hb, (I'.ok.exf b hb).1, I'.ok.exfs b hb, .inl hb, fun x c e => (I'.ok.exf b hb).2 x c e, fun p hp => absurd (show p ∈ ([] : List (Addr × Obj)) ++ [] from hp) (by simp)⟩
  have loop : codeAny (model X.prog X.w) X.A (.compLoop (.ListComp elt (⟨tg, iter, ifs, 0⟩ :: rest) scope pos) 0 (.ref it) (.ref D) ce) (compPost (model X.prog X.w) X.A X.xe use Qf (.ref D) s3.heap.objs.size) s4 := by
    refine compLoopG hT (fun n s' => ∃ i H', Inv (X.blk s3 H3 scope ce fp) [] (wipe σ (own.map (·.2))) H' s' ∧ tn i s'.heap ∧ (∀ b ∈ fp, H' b = none) ∧ W i n H') ?_ m0 ⟨0, H3, I4, st4, nfp, w0⟩
    rintro n s5 ⟨i, H5, I5, st5, n5, w5⟩
    rcases turn i n H5 w5 with ⟨stop, qq⟩ | ⟨go, Nx, hNx, step⟩
    · have td := T.done (X.blk s3 H3 scope ce fp) rfl rfl rfl hc i [] s5 _ H5 (fun _ _ => False) I5 (stat I5 n5) st5 stop
      refine thnF td fun r s6 ⟨hr, I6⟩ => ?_
      subst hr
      -- back in the def's context
      have I7 : Inv X pins σ H5 s6 := I3.call' (ch := fp) I6.os I6.base I6.hok I6.bare fun b hb => ⟨(f3 b hb).1.2.2.2.1, (f3 b hb).1.2.1, (f3 b hb).1.2.2.2.2.1, (f3 b hb).1.2.2.2.2.2⟩
      have nC : H5 s3.heap.objs.size = none := by
        have z : H5 ce.locals = none := I6.free
        rw [cL] at z
        exact z
      obtain ⟨m, hn, _⟩ := I6.loc
      have hn : s6.heap.Ns ce.locals m := hn
      rw [cL] at hn
      exact hRR D s3.heap.objs.size s6 m H5 I7 qq hn (I3.fpOk (Nat.le_refl _) nC)
    · have ti := T.item (X.blk s3 H3 scope ce fp) rfl rfl rfl hc i [] s5 _ H5 (fun _ _ => False) I5 (stat I5 n5) st5 go
      refine thnF ti fun r s6 ⟨u, hr, h6⟩ => ?_
      subst hr
      refine thnF h6 fun _ s7 ⟨x, H7, I7, r7, y7, st7, n7⟩ => ?_
      have I7' := I7.pinned (stat I7 n7) (T.obj _ _ st7)
      refine thnF (pg.run _ s7 _ H7 x u _ I7' r7 (step x H7 y7)) fun _ s8 ⟨σ8, H8, I8, hw8, q8⟩ => ?_
      refine thnF (pt.run _ s8 σ8 H8 _ I8 q8) fun b s9 ⟨H9, I9, q9⟩ => ?_
      -- the turn's end, from any slots that know what the block knew at its start
      have fin : ∀ {σ9 : St} {s' : Shared} {H' : Hp}, Inv (X.blk s3 H3 scope ce fp) ([] ++ pinsAt fp s7.heap) σ9 H' s' → (wipe σ (own.map (·.2))).length = σ9.length → (∀ (j : Nat) v, (wipe σ (own.map (·.2)))[j]? = some (some v) → σ9[j]? = some (some v)) → Nx H' →
          ∃ m, m < n ∧ ∃ i H', Inv (X.blk s3 H3 scope ce fp) [] (wipe σ (own.map (·.2))) H' s' ∧ tn i s'.heap ∧ (∀ b ∈ fp, H' b = none) ∧ W i m H' := fun {σ9 s' H'} I' hl hk nx => by
        obtain ⟨m', hm, w'⟩ := hNx H' nx
        have pin' : ∀ b ∈ fp, ∀ o, s7.heap.get? b = some o → s'.heap.get? b = some o ∧ H' b = none := fun b hb o e =>
          let z := I'.pin (b, o) (List.mem_append_right _ (List.mem_append_right _ (mem_pinsAt hb e)))
          ⟨z.1, z.2.1⟩
        refine ⟨m', hm, i + 1, H', (I'.unpinned (pins := [])).weak hl hk, T.keep _ _ _ st7 fun b hb o e => (pin' b hb o e).1, fun b hb => ?_, w'⟩
        obtain ⟨o, e, _⟩ := T.obj _ _ st7 b hb
        exact (pin' b hb o e).2
      have hl8 : (wipe σ (own.map (·.2))).length = σ8.length := by rw [← hw8, wipe_length]
      have hk8 : ∀ (j : Nat) v, (wipe σ (own.map (·.2)))[j]? = some (some v) → σ8[j]? = some (some v) := fun j v e => by
        rw [← hw8] at e
        exact (wipe_some e).1
      cases b with
      | false =>
        simp only [Bool.false_eq_true, if_false] at q9 ⊢
        exact fin I9 hl8 hk8 q9
      | true =>
        simp only [if_true] at q9 ⊢
        refine thnF (pb _ s9 σ8 H9 _ I9 q9) fun f s10 ⟨hf, H10, I10, nx⟩ => ?_
        refine ⟨hf, fin I10 (hl8.trans (wipe_length σ8 vs1).symm) (fun j v e => ?_) nx⟩
        rw [← hw8] at e
        obtain ⟨e1, e2⟩ := wipe_some e
        rw [wipe_out fun z => e2 (hv j z)]
        exact e1
  exact codeAny_compStart_list loop (T.self X.A 0 _ _ _ st4 loop)
theorem pe_lcG {elt tg iter : Expr} {ifs : List Expr} {rest : List Comprehension} {scope : Scope} {own : List (Str × Nat)} {vs1 : List Nat} {pos : Pos} {wi : TI} {g : TG} {tt : TT} {tb : Addr → TB} {bd : Addr → Value → Env → Sem Fin}
    (hT : ∀ D it env, compTurn (.ListComp elt (⟨tg, iter, ifs, 0⟩ :: rest) scope pos) 0 it (.ref D) env = tTurn ifs tg iter (bd D it env) (again (.compLoop (.ListComp elt (⟨tg, iter, ifs, 0⟩ :: rest) scope pos) 0 it (.ref D) env)) it env)
    (hc : X.calm = true) (hN : X.N.Nodup) (hi : PI X tg iter wi) (ok : BlkOk X.N X.env.scope scope own) (hv : ∀ i ∈ vs1, i ∈ own.map (·.2))
    (hg : ∀ (s : Shared) (H : Hp) (C : Addr) (cl : List (Str × Addr)) (fp : List Addr), PG (X.blk s H scope (compEnvC scope cl C X.env) fp) tg g) (ht : ∀ (s : Shared) (H : Hp) (C : Addr) (cl : List (Str × Addr)) (fp : List Addr), PTs (X.blk s H scope (compEnvC scope cl C X.env) fp) ifs tt)
    (hb : BdFam X scope bd (.ListComp elt (⟨tg, iter, ifs, 0⟩ :: rest) scope pos) vs1 tb) (hs : ∀ x, foldedSetIterable iter X.env x = pure x) :
    PE X (.ListComp elt (⟨tg, iter, ifs, 0⟩ :: rest) scope pos) (tLcN wi g tt tb (own.map (·.2))) := by
  refine ⟨fun pins s σ H Q I h => ?_⟩
  rw [eval_ListComp]
  refine lcG_core hT hc hN I hi ok hv hg ht hb hs h fun D C s' m H' I' q hn f => ⟨m, hn, fun h'' sb => ?_⟩
  obtain ⟨f0, f1, f2, f3, f4, f5⟩ := f
  exact ⟨.ref D, H', I'.turned (t' := s'.toks) (fun b o hb e => (sb.2 b hb).trans e) f0 f1 f3 f4 f5, rfl, q⟩
theorem ps_setLcG {i : Nat} {y : Str} {py : Pos} {elt tg iter : Expr} {ifs : List Expr} {rest : List Comprehension} {scope : Scope} {own : List (Str × Nat)} {vs1 : List Nat} {pos spos : Pos} {wi : TI} {g : TG} {tt : TT} {tb : Addr → TB} {bd : Addr → Value → Env → Sem Fin}
    (hT : ∀ D it env, compTurn (.ListComp elt (⟨tg, iter, ifs, 0⟩ :: rest) scope pos) 0 it (.ref D) env = tTurn ifs tg iter (bd D it env) (again (.compLoop (.ListComp elt (⟨tg, iter, ifs, 0⟩ :: rest) scope pos) 0 it (.ref D) env)) it env)
    (hc : X.calm = true) (hN : X.N.Nodup) (hy : X.N[i]? = some y) (hyl : X.env.scope.names.lookup y = some .local)
    (hsw : swapsWith (.ListComp elt (⟨tg, iter, ifs, 0⟩ :: rest) scope pos) (some (.Name y py)) spos.line X.env = pure true) (hi : PI X tg iter wi) (ok : BlkOk X.N X.env.scope scope own) (hv : ∀ i ∈ vs1, i ∈ own.map (·.2))
    (hg : ∀ (s : Shared) (H : Hp) (C : Addr) (cl : List (Str × Addr)) (fp : List Addr), PG (X.blk s H scope (compEnvC scope cl C X.env) fp) tg g) (ht : ∀ (s : Shared) (H : Hp) (C : Addr) (cl : List (Str × Addr)) (fp : List Addr), PTs (X.blk s H scope (compEnvC scope cl C X.env) fp) ifs tt)
    (hb : BdFam X scope bd (.ListComp elt (⟨tg, iter, ifs, 0⟩ :: rest) scope pos) vs1 tb) (hs : ∀ x, foldedSetIterable iter X.env x = pure x) :
    PS X (.Assign [.Name y py] (.ListComp elt (⟨tg, iter, ifs, 0⟩ :: rest) scope pos) spos) (tAsg (tLcN wi g tt tb (own.map (·.2))) (gName i)) := by
  refine ⟨fun pins s σ H D I h => ?_⟩
  rw [exec_Assign_Name_used _ _ _ _ hsw]
  refine wpAny_bind (wpAny_standAt (wpAny_bind ?_))
  show wpAny _ X.A (do let _ ← comprehension (.ListComp elt (⟨tg, iter, ifs, 0⟩ :: rest) scope pos) scope X.env (firstIterPos (⟨tg, iter, ifs, 0⟩ :: rest) pos) (newList []) false (eval iter X.env) (some (assign (.Name y py) X.env))) _ _ s
  have h : tLcN wi g tt tb (own.map (·.2)) σ H (fun x H1 => gName i x σ H1 D.nx) := h
  refine wpAny_bind (thn (lcG_core (Qf := fun _ s' => SP X pins D .next s') hT hc hN I hi ok hv hg ht hb hs h fun L C s' m H' I' q hn f => ?_) fun _ s' hq => wpAny_pure (wpAny_pure hq))
  show wpAny _ _ (assign (.Name y py) X.env (.ref L)) _ _ _
  refine wpAny_assign_Name (store_ok2 (v := V.ref L) I' hN hy (.inl hyl) rfl (fun s2 I2 ⟨a, sb, ha⟩ => ?_) (.inr hyl))
  obtain ⟨f0, f1, f2, f3, f4, f5⟩ := f
  have haC : C ≠ a := by
    rcases ha with z | z
    · rw [z]; exact f1
    · exact fun e => f4 y a z e.symm
  refine ⟨m, hn.sameBut sb haC, fun h3 sb3 => ?_⟩
  exact ⟨_, H', I2.turned (t' := s2.toks) (fun b o hb e => (sb3.2 b hb).trans e) f0 f1 f3 f4 f5, q⟩
end
end L2
namespace Mir
open PySem PySem.Spec L2
open PyProof.Rows (envOfC)

/-! ### comprehensions of more than one clause -/
def valsS : Sl → Sl
  | .own _ => .unk
  | s => s
def vals (Γ : Gam) : Gam := Γ.map valsS
theorem vals_at {Γ : Gam} {i : Nat} {d : D} (h : (vals Γ)[i]? = some (Sl.val d)) : Γ[i]? = some (Sl.val d) := by
  unfold vals at h
  rw [List.getElem?_map] at h
  cases q : Γ[i]? with
  | none => rw [q] at h; cases h
  | some s => rw [q] at h; cases s <;> first | exact h | cases h
theorem vals_own {Γ : Gam} {i : Nat} {d : D} (h : (vals Γ)[i]? = some (Sl.own d)) : False := by
  unfold vals at h
  rw [List.getElem?_map] at h
  cases q : Γ[i]? with
  | none => rw [q] at h; cases h
  | some s => rw [q] at h; cases s <;> cases h
theorem vals_ref {Γ : Gam} {i : Nat} {d : RefK} (h : (vals Γ)[i]? = some (Sl.ref d)) : Γ[i]? = some (Sl.ref d) := by
  unfold vals at h
  rw [List.getElem?_map] at h
  cases q : Γ[i]? with
  | none => rw [q] at h; cases h
  | some s => rw [q] at h; cases s <;> first | exact h | cases h
/-- what is known of plain slots, whatever the heap does meanwhile -/
theorem Holds.plain {G : GG} {H0 S1 H1 S H S' H' : Hp} {σ : L2.St} {Γ : Gam} (h : Holds G H0 σ S H Γ) (e : Ex S S') (e1 : Ex S' H') (e0 : Ex H0 H') : Holds G H0 σ S' H' (vals Γ) where
  ex := e1
  e0 := e0
  len := Nat.le_trans (Nat.le_of_eq (by unfold vals; rw [List.length_map])) h.len
  val := fun i d q => let ⟨v, a, b⟩ := h.val i d (vals_at q); ⟨v, a, b.mono e⟩
  own := fun i d q => (vals_own q).elim
  dis := fun i j d e p q => (vals_own q).elim
  ref := fun i a q => ⟨(h.ref i a (vals_ref q)).1, (h.ref i a (vals_ref q)).2.mono e⟩
def subL (a b : List Bool) : Bool := (List.range a.length).all fun i => !(a.getD i false) || b.getD i false
theorem subL_at {a b : List Bool} (h : subL a b = true) {i : Nat} (k : a[i]? = some true) : b[i]? = some true := by
  have hi : i < a.length := (List.getElem?_eq_some_iff.mp k).1
  have := List.all_eq_true.mp h i (List.mem_range.mpr hi)
  rw [Bool.or_eq_true] at this
  rcases this with z | z
  · rw [List.getD_eq_getElem?_getD, k] at z; cases z
  · rw [List.getD_eq_getElem?_getD] at z
    cases q : b[i]? with
    | none => rw [q] at z; cases z
    | some c => rw [q] at z; exact congrArg some z
def withL (F : Fm) (L : List Bool) (h : subL L F.L = true) : Fm := { F with L := L, loc := fun X hX i x hL hN => F.loc X hX i x (subL_at h hL) hN }

/-- behind the tests of a clause: a datum's list, and what is asked of the transformer -/
abbrev RB := Gam → M (List D) → Prop
def SemB (G : GG) (tb : Addr → TB) (R : RB) : Prop := ∀ Γ mb xs, R Γ mb → mb = .ok xs → ∀ H0 σ S1 H1 S H D acc (Nx : Hp → Prop), H1 D = none → Ex H0 H1 → Holds G H0 σ S H Γ → Bs G S1 H1 D acc S H → acc.length + xs.length ≤ sizeLine →
  (∀ S' H', Ex S S' → Bs G S1 H1 D (acc ++ xs) S' H' → Nx H') → tb D σ H Nx
def ElB (F : Fm) (elt : Expr) : RB := fun Γ mb => ∃ me, EM F elt Γ me ∧ mb = me.bind fun y => .ok [y]
def TurnG (F : Fm) (Γ : Gam) (tf : D → Gam → Option Gam) (ifs : List Expr) (R : RB) (f : D → M (List D)) : Prop :=
  ∀ d, (∃ Γ' mt mb, tf d Γ = some Γ' ∧ IfM F ifs Γ' mt ∧ R Γ' mb ∧ f d = ifM mt mb (.ok [])) ∨ f d = .stk
def InB (F : Fm) (tg i : Expr) (vs : List Nat) (tf : D → Gam → Option Gam) (ifs : List Expr) (R : RB) : RB := fun Γ mb =>
  ∃ mi f, IM F tg i Γ mi ∧ TurnG F (wipeΓ (vals Γ) vs) tf ifs R f ∧ mb = mi.bind fun ds => compL f ds

theorem sem_el {F : Fm} {elt : Expr} : SemB F.G (fun D => tEl (cE F elt) D) (ElB F elt) := by
  rintro Γ mb xs ⟨me, hme, rfl⟩ hx H0 σ S1 H1 S H D acc Nx hD e0 hh b hl hN
  cases me with
  | stk => cases hx
  | exn e => cases hx
  | ok y =>
    cases hx
    refine hme.c H0 σ S H _ hh (fun S6 H6 g6 v rv => ?_)
    have b6 := b.step g6
    obtain ⟨vs, hvs, hlen⟩ := b6.len
    refine ⟨vs, hvs, ?_, hN S6 _ g6.s (b6.add hD rv hvs)⟩
    rw [List.length_cons, List.length_nil] at hl
    omega
/-- the target of a clause that stores among vs alone -/
abbrev TgSem (G : GG) (g : TG) (tf : D → Gam → Option Gam) (L : List Bool) : Prop := ∀ H0 σ S H v d Γ Γ' (Q : L2.St → Hp → Prop), Holds G H0 σ S H Γ → Rep G S v d → tf d Γ = some Γ' → (∀ σ', Holds G H0 σ' S H Γ' → σ'.length = σ.length → (∀ i : Nat, L[i]? ≠ some true → σ'[i]? = σ[i]?) → Q σ' H) → g v σ H Q
theorem wipe_turn {σ σ' : L2.St} {vs : List Nat} {L : List Bool} (l : σ'.length = (wipe σ vs).length) (k : ∀ i : Nat, L[i]? ≠ some true → σ'[i]? = (wipe σ vs)[i]?) (hw : ∀ i : Nat, L[i]? = some true → i ∈ vs) : wipe σ' vs = wipe σ vs := by
  refine (wipe_eq l k hw).trans ?_
  refine List.ext_getElem? fun j => ?_
  by_cases hj : j ∈ vs
  · rw [wipe_at hj, wipe_at hj, wipe_length]
  · rw [wipe_out hj]
theorem sem_in {F : Fm} {tg i : Expr} {vs : List Nat} {tf : D → Gam → Option Gam} {ifs : List Expr} {R : RB} {tb : Addr → TB} {g : TG} {L : List Bool} (hb : SemB F.G tb R) (hg : TgSem F.G g tf L) (hw : ∀ i : Nat, L[i]? = some true → i ∈ vs) :
    SemB F.G (fun D => tIn (cI F tg i) g (cP F ifs) (tb D) vs) (InB F tg i vs tf ifs R) := by
  rintro Γ mb xs ⟨mi, f, hi, ht, rfl⟩ hx H0 σ S1 H1 S H D acc Nx hD e0 hh b hl hN
  cases mi with
  | stk => cases hx
  | exn e => cases hx
  | ok ds =>
    have hx : compL f ds = .ok xs := hx
    refine hi.c H0 σ S H _ hh (fun Sa Ha ga J hJ => ?_)
    have ba := b.step ga
    have ha := hh.grow ga
    refine ⟨fun j m H => m = ds.length - j ∧ j ≤ ds.length ∧ ∃ S2 ac r, Ex Sa S2 ∧ Bs F.G S1 H1 D (acc ++ ac) S2 H ∧ compL f (ds.drop j) = .ok r ∧ ac ++ r = xs, ⟨ds.length, by simp, Nat.zero_le _, Sa, [], xs, Same.refl _, by rw [List.append_nil]; exact ba, hx, rfl⟩, ?_⟩
    rintro j m H2 ⟨rfl, hj, S2, ac, r, e2, b2, hr, hac⟩
    obtain ⟨stop, go⟩ := hJ S2 H2 e2 b2.grow.sub
    by_cases hlt : j < ds.length
    · obtain ⟨hgo, hy⟩ := go j ds[j] (List.getElem?_eq_getElem hlt)
      rw [List.drop_eq_getElem_cons hlt] at hr
      obtain ⟨ys, r', hy1, hr', rfl⟩ := compL_cons hr
      refine .inr ⟨hgo, fun H => ∃ S3, Ex Sa S3 ∧ Bs F.G S1 H1 D (acc ++ (ac ++ ys)) S3 H, fun H' ⟨S', e', b'⟩ => ⟨ds.length - (j + 1), by omega, rfl, hlt, S', ac ++ ys, r', e', b', hr', by rw [List.append_assoc]; exact hac⟩, fun x H3 y => ?_⟩
      obtain ⟨S3, g3, r3⟩ := hy x H3 y
      rcases ht ds[j] with ⟨Γ', mt, me, q1, hif, hR, hf⟩ | z
      · have b3 := b2.step g3
        have h3 : Holds F.G H0 _ S3 H3 _ := (Holds.plain (S1 := S) (H1 := H) ha (e2.trans g3.s) g3.sub (e0.trans b3.grow.h)).wipe vs
        refine hg H0 _ S3 H3 x ds[j] _ Γ' _ h3 r3 q1 fun σ4 h4 l4 k4 => ⟨wipe_turn l4 k4 hw, ?_⟩
        rw [hf] at hy1
        cases mt with
        | stk => cases hy1
        | exn e => cases hy1
        | ok c =>
          refine hif.c H0 σ4 S3 H3 _ h4 (fun S5 H5 g5 => ?_)
          have e5 : Ex Sa S5 := (e2.trans g3.s).trans g5.s
          cases c with
          | false =>
            cases hy1
            refine iteF ?_
            rw [List.append_nil]
            exact ⟨S5, e5, b3.step g5⟩
          | true =>
            have hy1 : me = .ok ys := hy1
            refine iteT (hb Γ' me ys hR hy1 H0 σ4 S1 H1 S5 H5 D (acc ++ ac) _ hD e0 (h4.grow g5) (b3.step g5) ?_ ?_)
            · have : (ac ++ (ys ++ r')).length = xs.length := congrArg List.length hac
              simp only [List.length_append] at this ⊢
              omega
            · intro S' H' e' b'
              refine ⟨S', e5.trans e', ?_⟩
              rw [← List.append_assoc]
              exact b'
      · rw [z] at hy1; cases hy1
    · have e : j = ds.length := by omega
      subst e
      rw [List.drop_length] at hr
      cases hr
      rw [List.append_nil] at hac
      subst hac
      exact .inl ⟨stop, hN S2 H2 (ga.s.trans e2) b2⟩

section
variable {F : Fm} {Γ : Gam} {scope : Scope} {own : List (Str × Nat)} {V L : List Bool} {kd : List (Str × NameKind)} {elt tg iter : Expr} {ifs : List Expr} {pos : Pos} {mi : M (List D)} {f : D → M (List D)} {tf : D → Gam → Option Gam} {R : RB} {tb : Addr → TB}
theorem ev_lcG (B : BlkF F scope own V L kd) (hi : IM F tg iter Γ mi) {g : TG} (hg : TgSem F.G g tf L) (hb : SemB F.G tb R)
    (ht : TurnG (blkF F B) (wipeΓ (vals Γ) (own.map (·.2))) tf ifs R f) : EvM F (tLcN (cI F tg iter) g (cP (blkF F B) ifs) tb (own.map (·.2))) Γ (lcM mi f) := by
  intro H0 σ S H Q hh po
  refine hi.c H0 σ S H _ hh ((Po.bind po).imp fun ds S1 H1 g1 q1 J hJ => ?_)
  intro A hA
  cases hc : compL f ds with
  | stk => rw [hc] at q1; exact False.elim q1
  | exn e => rw [hc] at q1; exact False.elim q1
  | ok xs =>
    rw [hc] at q1
    obtain ⟨hR, q1⟩ := Po.gate (m := M.ok (D.lst xs)) q1
    have h1 : Holds F.G H0 σ S1 H1 Γ := hh.grow g1
    refine ⟨fun i m H => m = ds.length - i ∧ i ≤ ds.length ∧ ∃ S acc r, Bs F.G S1 H1 A acc S H ∧ compL f (ds.drop i) = .ok r ∧ acc ++ r = xs, ⟨ds.length, by simp, Nat.zero_le _, S1, [], xs, Bs.start g1.sub hA, hc, rfl⟩, ?_⟩
    rintro i m H2 ⟨rfl, hi, S2, acc, r, b, hr, hR2⟩
    obtain ⟨stop, go⟩ := hJ S2 H2 b.grow.s b.grow.sub
    by_cases hlt : i < ds.length
    · obtain ⟨hgo, hy⟩ := go i ds[i] (List.getElem?_eq_getElem hlt)
      rw [List.drop_eq_getElem_cons hlt] at hr
      obtain ⟨ys, r', hx, hr', rfl⟩ := compL_cons hr
      refine .inr ⟨hgo, fun H => ∃ S, Bs F.G S1 H1 A (acc ++ ys) S H, fun H' ⟨S', b'⟩ => ⟨ds.length - (i + 1), by omega, rfl, hlt, S', acc ++ ys, r', b', hr', by rw [List.append_assoc]; exact hR2⟩, fun x H3 y => ?_⟩
      obtain ⟨S3, g3, r3⟩ := hy x H3 y
      rcases ht ds[i] with ⟨Γ', mt, me, e1, hif, hRR, hf⟩ | z
      · have b3 := b.step g3
        have h3 := (Holds.plain (S1 := S) (H1 := H) h1 (b.grow.s.trans g3.s) g3.sub (h1.e0.trans b3.grow.h)).wipe (own.map (·.2))
        refine hg H0 _ S3 H3 x ds[i] _ Γ' _ h3 r3 e1 fun σ4 h4 l4 k4 => ⟨wipe_turn l4 k4 B.hw, ?_⟩
        rw [hf] at hx
        cases mt with
        | stk => cases hx
        | exn e => cases hx
        | ok c =>
          refine hif.c H0 σ4 S3 H3 _ h4 (fun S5 H5 g5 => ?_)
          cases c with
          | false =>
            cases hx
            refine iteF ?_
            rw [List.append_nil]
            exact ⟨S5, b3.step g5⟩
          | true =>
            have hx : me = .ok ys := hx
            refine iteT (hb Γ' me ys hRR hx H0 σ4 S1 H1 S5 H5 A acc _ hA h1.e0 (h4.grow g5) (b3.step g5) ?_ fun S' H' _ b' => ⟨S', b'⟩)
            have : (acc ++ (ys ++ r')).length = xs.length := congrArg List.length hR2
            simp only [List.length_append] at this
            omega
      · rw [z] at hx; cases hx
    · have e : i = ds.length := by omega
      subst e
      rw [List.drop_length] at hr
      cases hr
      rw [List.append_nil] at hR2
      subst hR2
      obtain ⟨S', g', rr⟩ := b.done hA
      exact .inl ⟨stop, q1 S' H2 g' _ rr⟩
end
def hwL (L : List Bool) (vs : List Nat) : Bool := (List.range L.length).all fun i => !(L.getD i false) || vs.contains i
theorem hwL_at {L : List Bool} {vs : List Nat} (h : hwL L vs = true) (i : Nat) (k : L[i]? = some true) : i ∈ vs := by
  have hi : i < L.length := (List.getElem?_eq_some_iff.mp k).1
  have := List.all_eq_true.mp h i (List.mem_range.mpr hi)
  rw [Bool.or_eq_true] at this
  rcases this with z | z
  · rw [List.getD_eq_getElem?_getD, k] at z; cases z
  · simpa using z

/-! ### the forms -/
section
variable {F : Fm} {Γ : Gam} {scope : Scope} {own : List (Str × Nat)} {V L : List Bool} {kd : List (Str × NameKind)} {elt tg iter tg1 iter1 tg2 iter2 : Expr} {ifs ifs1 ifs2 : List Expr} {pos : Pos} {mi : M (List D)} {f : D → M (List D)} {tf tf1 tf2 : D → Gam → Option Gam}
/-- a body of a block -/
def BdM (F : Fm) {scope : Scope} {own : List (Str × Nat)} {V L : List Bool} {kd : List (Str × NameKind)} (B : BlkF F scope own V L kd) (bd : Addr → Value → Env → Sem Fin) (E : Expr) (k : Nat) (vs : List Nat) (R : RB) : Prop :=
  ∃ tb, SemB F.G tb R ∧ ∀ X, F.Xs X → ∀ (s : Shared) (H : Hp) (C : Addr) (cl : List (Str × Addr)) (fp : List Addr) (D : Addr) (it : Value), PBd (X.blk s H scope (compEnvC scope cl C X.env) fp) (bd D it (compEnvC scope cl C X.env)) (.compLoop E k it (.ref D) (compEnvC scope cl C X.env)) vs (tb D)
theorem bd_el {B : BlkF F scope own V L kd} {E : Expr} {k : Nat} : BdM F B (fun D it env => bdIn E elt k it (.ref D) env) E k [] (ElB (blkF F B) elt) :=
  ⟨_, sem_el (F := blkF F B), fun X hX s H C cl fp D it => pbd_in (cE_ok _ ⟨X, s, H, C, cl, fp, hX, rfl⟩)⟩
theorem bd_in {B : BlkF F scope own V L kd} {gs : List Comprehension} {sc : Scope} {k : Nat} {L1 : List Bool} {vs1 vs2 : List Nat} {bd1 : Addr → Value → Env → Sem Fin} {R : RB} (hcm : F.cm = true) (hk : gs[k + 1]? = some ⟨tg1, iter1, ifs1, 0⟩)
    (hT : ∀ D it env, compTurn (.ListComp elt gs sc pos) (k + 1) it (.ref D) env = tTurn ifs1 tg1 iter1 (bd1 D it env) (again (.compLoop (.ListComp elt gs sc pos) (k + 1) it (.ref D) env)) it env)
    (hs1 : ∀ env x, foldedSetIterable iter1 env x = pure x) (hL : subL L1 L = true) (hw : hwL L1 vs1 = true) (hv : vs2.all vs1.contains = true) (hg : TgM (withL (blkF F B) L1 hL) tg1 tf1) (hb : BdM F B bd1 (.ListComp elt gs sc pos) (k + 1) vs2 R) :
    BdM F B (fun D it env => bdOut (.ListComp elt gs sc pos) iter1 k it (.ref D) env) (.ListComp elt gs sc pos) k vs1 (InB (blkF F B) tg1 iter1 vs1 tf1 ifs1 R) := by
  obtain ⟨tb, h1, h2⟩ := hb
  obtain ⟨g, pg, eg⟩ := hg
  refine ⟨_, sem_in (F := blkF F B) (L := L1) h1 (fun H0 σ S H v d Γ Γ' Q => eg H0 σ S H v d Γ Γ' Q) (hwL_at hw), fun X hX s H C cl fp D it => ?_⟩
  have hY : (blkF F B).Xs (X.blk s H scope (compEnvC scope cl C X.env) fp) := ⟨X, s, H, C, cl, fp, hX, rfl⟩
  exact pbd_out rfl hk (F.hc hcm X hX) (fun it => hT D it _) (fun i hi => by simpa using List.all_eq_true.mp hv i hi) (hs1 _) (cI_ok _ hY) (pg _ hY) (cP_ok _ hY) (fun it => h2 X hX s H C cl fp D it)
theorem em_lcG {R : RB} {rest : List Comprehension} {vs1 : List Nat} {bd : Addr → Value → Env → Sem Fin} (B : BlkF F scope own V L kd) (hcm : F.cm = true)
    (hT : ∀ D it env, compTurn (.ListComp elt (⟨tg, iter, ifs, 0⟩ :: rest) scope pos) 0 it (.ref D) env = tTurn ifs tg iter (bd D it env) (again (.compLoop (.ListComp elt (⟨tg, iter, ifs, 0⟩ :: rest) scope pos) 0 it (.ref D) env)) it env)
    (hi : IM F tg iter Γ mi) (hg : TgM (blkF F B) tg tf) (hv : vs1.all (own.map (·.2)).contains = true) (hb : BdM F B bd (.ListComp elt (⟨tg, iter, ifs, 0⟩ :: rest) scope pos) 0 vs1 R) (ht : TurnG (blkF F B) (wipeΓ (vals Γ) (own.map (·.2))) tf ifs R f)
    (hs : ∀ X, F.Xs X → ∀ x, foldedSetIterable iter X.env x = pure x) : EM F (.ListComp elt (⟨tg, iter, ifs, 0⟩ :: rest) scope pos) Γ (lcM mi f) := by
  obtain ⟨g, pg, eg⟩ := hg
  obtain ⟨tb, h1, h2⟩ := hb
  refine ⟨_, fun X hX => ?_, ev_lcG B hi (g := g) (fun H0 σ S H v d Γ Γ' Q => eg H0 σ S H v d Γ Γ' Q) h1 ht⟩
  have hn := F.hN X hX
  exact pe_lcG hT (F.hc hcm X hX) (by rw [hn]; exact F.nd) (cI_ok X hX) (by rw [hn]; exact blk_of (by rw [F.hkd X hX]; exact B.ok)) (fun i hi => by have h := List.all_eq_true.mp hv i hi; rw [List.contains_iff_mem] at h; exact h) (fun s H C cl fp => pg _ ⟨X, s, H, C, cl, fp, hX, rfl⟩) (fun s H C cl fp => cP_ok _ ⟨X, s, H, C, cl, fp, hX, rfl⟩) (h2 X hX) (hs X hX)
theorem gm_lcG {R : RB} {rest : List Comprehension} {vs1 : List Nat} {bd : Addr → Value → Env → Sem Fin} (i : Nat) {x : Str} {py spos : Pos} (hx : F.N[i]? = some x) (B : BlkF F scope own V L kd) (hcm : F.cm = true)
    (hT : ∀ D it env, compTurn (.ListComp elt (⟨tg, iter, ifs, 0⟩ :: rest) scope pos) 0 it (.ref D) env = tTurn ifs tg iter (bd D it env) (again (.compLoop (.ListComp elt (⟨tg, iter, ifs, 0⟩ :: rest) scope pos) 0 it (.ref D) env)) it env)
    (hi : IM F tg iter Γ mi) (hg : TgM (blkF F B) tg tf) (hv : vs1.all (own.map (·.2)).contains = true) (hb : BdM F B bd (.ListComp elt (⟨tg, iter, ifs, 0⟩ :: rest) scope pos) 0 vs1 R) (ht : TurnG (blkF F B) (wipeΓ (vals Γ) (own.map (·.2))) tf ifs R f)
    (hs : ∀ X, F.Xs X → ∀ x, foldedSetIterable iter X.env x = pure x)
    (hk : F.kd.lookup x = some .local) (hl : (py.line == pos.line) = true) (ha : (scope.names.any fun (n, k) => n == x && (k == .local || k == .cell)) = false) : GM F (.Assign [.Name x py] (.ListComp elt (⟨tg, iter, ifs, 0⟩ :: rest) scope pos) spos) i Γ (lcM mi f) := by
  obtain ⟨g, pg, eg⟩ := hg
  obtain ⟨tb, h1, h2⟩ := hb
  refine ⟨_, fun X hX => ?_, ev_lcG B hi (g := g) (fun H0 σ S H v d Γ Γ' Q => eg H0 σ S H v d Γ Γ' Q) h1 ht⟩
  have hn := F.hN X hX
  have hk' : X.env.scope.names.lookup x = some .local := by rw [F.hkd X hX]; exact hk
  exact ps_setLcG hT (F.hc hcm X hX) (by rw [hn]; exact F.nd) (by rw [hn]; exact hx) hk' (sw_true (F.hki X hX) hk' hl ha) (cI_ok X hX) (by rw [hn]; exact blk_of (by rw [F.hkd X hX]; exact B.ok)) (fun i hi => by have h := List.all_eq_true.mp hv i hi; rw [List.contains_iff_mem] at h; exact h) (fun s H C cl fp => pg _ ⟨X, s, H, C, cl, fp, hX, rfl⟩) (fun s H C cl fp => cP_ok _ ⟨X, s, H, C, cl, fp, hX, rfl⟩) (h2 X hX) (hs X hX)

abbrev E2 (elt tg iter : Expr) (ifs : List Expr) (tg1 iter1 : Expr) (ifs1 : List Expr) (scope : Scope) (pos : Pos) : Expr := .ListComp elt [⟨tg, iter, ifs, 0⟩, ⟨tg1, iter1, ifs1, 0⟩] scope pos
abbrev E3 (elt tg iter : Expr) (ifs : List Expr) (tg1 iter1 : Expr) (ifs1 : List Expr) (tg2 iter2 : Expr) (ifs2 : List Expr) (scope : Scope) (pos : Pos) : Expr := .ListComp elt [⟨tg, iter, ifs, 0⟩, ⟨tg1, iter1, ifs1, 0⟩, ⟨tg2, iter2, ifs2, 0⟩] scope pos
theorem em_lc2 {L1 : List Bool} {vs1 : List Nat} (B : BlkF F scope own V L kd) (hL : subL L1 L = true) (hw : hwL L1 vs1 = true) (hv : vs1.all (own.map (·.2)).contains = true) (hcm : F.cm = true) (hi : IM F tg iter Γ mi) (hg : TgM (blkF F B) tg tf) (hg1 : TgM (withL (blkF F B) L1 hL) tg1 tf1)
    (ht : TurnG (blkF F B) (wipeΓ (vals Γ) (own.map (·.2))) tf ifs (InB (blkF F B) tg1 iter1 vs1 tf1 ifs1 (ElB (blkF F B) elt)) f)
    (hs : ∀ X, F.Xs X → ∀ x, foldedSetIterable iter X.env x = pure x := by intros; rfl) (hs1 : ∀ env x, foldedSetIterable iter1 env x = pure x := by intros; rfl) : EM F (E2 elt tg iter ifs tg1 iter1 ifs1 scope pos) Γ (lcM mi f) :=
  em_lcG B hcm (fun D it env => turn2_0 it (.ref D) env) hi hg hv (bd_in hcm rfl (fun D it env => turn2_1 it (.ref D) env) hs1 hL hw rfl hg1 bd_el) ht hs
theorem gm_lc2 {L1 : List Bool} {vs1 : List Nat} (i : Nat) {x : Str} {py spos : Pos} (hx : F.N[i]? = some x) (B : BlkF F scope own V L kd) (hL : subL L1 L = true) (hw : hwL L1 vs1 = true) (hv : vs1.all (own.map (·.2)).contains = true) (hcm : F.cm = true) (hi : IM F tg iter Γ mi) (hg : TgM (blkF F B) tg tf) (hg1 : TgM (withL (blkF F B) L1 hL) tg1 tf1)
    (ht : TurnG (blkF F B) (wipeΓ (vals Γ) (own.map (·.2))) tf ifs (InB (blkF F B) tg1 iter1 vs1 tf1 ifs1 (ElB (blkF F B) elt)) f)
    (hk : F.kd.lookup x = some .local) (hl : (py.line == pos.line) = true) (hl2 : (py.line == spos.line) = true) (ha : (scope.names.any fun (n, k) => n == x && (k == .local || k == .cell)) = false)
    (hs : ∀ X, F.Xs X → ∀ x, foldedSetIterable iter X.env x = pure x := by intros; rfl) (hs1 : ∀ env x, foldedSetIterable iter1 env x = pure x := by intros; rfl) : GM F (.Assign [.Name x py] (E2 elt tg iter ifs tg1 iter1 ifs1 scope pos) spos) i Γ (lcM mi f) :=
  gm_lcG i hx B hcm (fun D it env => turn2_0 it (.ref D) env) hi hg hv (bd_in hcm rfl (fun D it env => turn2_1 it (.ref D) env) hs1 hL hw rfl hg1 bd_el) ht hs hk hl ha
theorem em_lc3 {L1 L2 : List Bool} {vs1 vs2 : List Nat} (B : BlkF F scope own V L kd) (hL : subL L1 L = true) (hw : hwL L1 vs1 = true) (hv : vs1.all (own.map (·.2)).contains = true) (hL2 : subL L2 L = true) (hw2 : hwL L2 vs2 = true) (hv2 : vs2.all vs1.contains = true)
    (hcm : F.cm = true) (hi : IM F tg iter Γ mi) (hg : TgM (blkF F B) tg tf) (hg1 : TgM (withL (blkF F B) L1 hL) tg1 tf1) (hg2 : TgM (withL (blkF F B) L2 hL2) tg2 tf2)
    (ht : TurnG (blkF F B) (wipeΓ (vals Γ) (own.map (·.2))) tf ifs (InB (blkF F B) tg1 iter1 vs1 tf1 ifs1 (InB (blkF F B) tg2 iter2 vs2 tf2 ifs2 (ElB (blkF F B) elt))) f)
    (hs : ∀ X, F.Xs X → ∀ x, foldedSetIterable iter X.env x = pure x := by intros; rfl) (hs1 : ∀ env x, foldedSetIterable iter1 env x = pure x := by intros; rfl) (hs2 : ∀ env x, foldedSetIterable iter2 env x = pure x := by intros; rfl) : EM F (E3 elt tg iter ifs tg1 iter1 ifs1 tg2 iter2 ifs2 scope pos) Γ (lcM mi f) :=
  em_lcG B hcm (fun D it env => turn3_0 it (.ref D) env) hi hg hv (bd_in hcm rfl (fun D it env => turn3_1 it (.ref D) env) hs1 hL hw hv2 hg1 (bd_in hcm rfl (fun D it env => turn3_2 it (.ref D) env) hs2 hL2 hw2 rfl hg2 bd_el)) ht hs
theorem gm_lc3 {L1 L2 : List Bool} {vs1 vs2 : List Nat} (i : Nat) {x : Str} {py spos : Pos} (hx : F.N[i]? = some x) (B : BlkF F scope own V L kd) (hL : subL L1 L = true) (hw : hwL L1 vs1 = true) (hv : vs1.all (own.map (·.2)).contains = true) (hL2 : subL L2 L = true) (hw2 : hwL L2 vs2 = true) (hv2 : vs2.all vs1.contains = true)
    (hcm : F.cm = true) (hi : IM F tg iter Γ mi) (hg : TgM (blkF F B) tg tf) (hg1 : TgM (withL (blkF F B) L1 hL) tg1 tf1) (hg2 : TgM (withL (blkF F B) L2 hL2) tg2 tf2)
    (ht : TurnG (blkF F B) (wipeΓ (vals Γ) (own.map (·.2))) tf ifs (InB (blkF F B) tg1 iter1 vs1 tf1 ifs1 (InB (blkF F B) tg2 iter2 vs2 tf2 ifs2 (ElB (blkF F B) elt))) f)
    (hk : F.kd.lookup x = some .local) (hl : (py.line == pos.line) = true) (hl2 : (py.line == spos.line) = true) (ha : (scope.names.any fun (n, k) => n == x && (k == .local || k == .cell)) = false)
    (hs : ∀ X, F.Xs X → ∀ x, foldedSetIterable iter X.env x = pure x := by intros; rfl) (hs1 : ∀ env x, foldedSetIterable iter1 env x = pure x := by intros; rfl) (hs2 : ∀ env x, foldedSetIterable iter2 env x = pure x := by intros; rfl) : GM F (.Assign [.Name x py] (E3 elt tg iter ifs tg1 iter1 ifs1 tg2 iter2 ifs2 scope pos) spos) i Γ (lcM mi f) :=
  gm_lcG i hx B hcm (fun D it env => turn3_0 it (.ref D) env) hi hg hv (bd_in hcm rfl (fun D it env => turn3_1 it (.ref D) env) hs1 hL hw hv2 hg1 (bd_in hcm rfl (fun D it env => turn3_2 it (.ref D) env) hs2 hL2 hw2 rfl hg2 bd_el)) ht hs hk hl ha
end

def blkAll (N : List Str) (kd0 : List (Str × NameKind)) (scope : Scope) (own : List (Str × Nat)) (V L : List Bool) : Bool :=
  blkC N (dumS kd0) scope own && visC N V (relN kd0 scope.names) && locC N L (relN kd0 scope.names) scope.names && ((List.range L.length).all fun i => !(L.getD i false) || own.any fun p => p.2 == i)
theorem blkF_of {F : Fm} {scope : Scope} {own : List (Str × Nat)} {V L : List Bool} (N : List Str) (kd0 : List (Str × NameKind)) (hN : F.N = N) (hk : F.kd = kd0) (h : blkAll N kd0 scope own V L = true) : BlkF F scope own V L (relN kd0 scope.names) := by
  subst hN hk
  unfold blkAll at h
  rw [Bool.and_eq_true, Bool.and_eq_true, Bool.and_eq_true] at h
  exact ⟨h.1.1.1, rfl, h.1.1.2, h.1.2, h.2⟩
end Mir
namespace Mir
open PySem PySem.Spec L2
open PyProof.Rows (envOfC)

/-! ### try: .. except C as n: .. -/
/-- the name of an exception's class; tab: for the numbered classes whether they are of it -/
structure XcN (G : GG) (x : Str) (tab : List Bool) : Prop where
  ex : ∃ (cv : Value) (v : V), (G.mg x = some cv ∨ (G.mg x = none ∧ bootBuiltins x = some cv ∧ x ≠ "__name__")) ∧ RelV v cv ∧ (∀ u, RelV v u → u = cv) ∧
    (∀ c b, tab[c]? = some b → PySem.W.exmOne G.K (G.xc c) cv = some b ∧ PySem.W.kitOne G.K (G.xc c) cv = some b)
  db : (x == ("__debug__" : Str)) = false
structure XcI (G : GG) (c : Nat) : Prop where
  ex : ∃ Dc, G.xc c = .ref Dc ∧ ExcC G.K Dc

def refK (a : Addr) (dd : Option Addr) (e : Exc) : RefK := ⟨a, dd.map fun d => (d, e.fs)⟩
def tryF (F : Fm) (W' : WX) : Fm where
  G := F.G
  W := W'
  N := F.N
  V := F.V
  L := F.L
  kd := F.kd
  Xs := fun Y => ∃ X pn xe, F.Xs X ∧ Takes (X.tr pn xe) W' ∧ PassesOwn (model X.prog X.w) X.A X.env xe ∧ Y = X.tr pn xe
  k := F.k
  cm := F.cm
  top := F.top
  fr := F.fr
  hX := by rintro Y ⟨X, pn, xe, h, _, _, rfl⟩; exact F.hX X h
  nd := F.nd
  hkd := by rintro Y ⟨X, pn, xe, h, _, _, rfl⟩; exact F.hkd X h
  hki := by rintro Y ⟨X, pn, xe, h, _, _, rfl⟩; exact F.hki X h
  vis := by rintro Y ⟨X, pn, xe, h, _, _, rfl⟩; exact F.vis X h
  loc := by rintro Y ⟨X, pn, xe, h, _, _, rfl⟩; exact F.loc X h
  hc := by rintro hc Y ⟨X, pn, xe, h, _, _, rfl⟩; exact F.hc hc X h
  hr := by rintro hc Y ⟨X, pn, xe, h, _, _, rfl⟩; exact F.hr hc X h
  hu := by rintro Y ⟨X, pn, xe, h, _, _, rfl⟩; exact F.hu X h
  tk := by rintro Y ⟨X, pn, xe, h, t, _, rfl⟩; exact t
  po := by rintro Y ⟨X, pn, xe, h, _, p, rfl⟩; exact p
  ht := by rintro z Y ⟨X, pn, xe, h, _, _, rfl⟩; exact F.ht z X h
def suiteF (F : Fm) (a : Addr) (cls : Value) (dd : Option Addr) : Fm where
  G := F.G
  W := fun _ _ _ _ => False
  N := F.N
  V := F.V
  L := F.L
  kd := F.kd
  Xs := fun Y => ∃ X oe pn, F.Xs X ∧ Zc cls dd oe ∧ (∃ vs, oe.data = .fields vs) ∧ Y = X.suite a ((a, oe) :: pn)
  k := F.k
  cm := false
  top := false
  fr := F.fr
  hX := by rintro Y ⟨X, oe, pn, h, _, _, rfl⟩; exact F.hX X h
  nd := F.nd
  hkd := by rintro Y ⟨X, oe, pn, h, _, _, rfl⟩; exact F.hkd X h
  hki := by rintro Y ⟨X, oe, pn, h, _, _, rfl⟩; exact F.hki X h
  vis := by rintro Y ⟨X, oe, pn, h, _, _, rfl⟩; exact F.vis X h
  loc := by rintro Y ⟨X, oe, pn, h, _, _, rfl⟩; exact F.loc X h
  hc := by rintro hc; cases hc
  hr := by rintro hc; cases hc
  hu := by rintro Y ⟨X, oe, pn, h, _, _, rfl⟩; exact F.hu X h
  tk := by rintro Y ⟨X, oe, pn, h, t, _, rfl⟩; exact takes0
  po := by rintro Y ⟨X, oe, pn, h, _, p, rfl⟩; exact PassesOwn.never
  ht := by rintro z; cases z

theorem Holds.raw {G : GG} {H0 : Hp} {σ : L2.St} {S H : Hp} {Γ : Gam} (h : Holds G H0 σ S H Γ) (i : Nat) (a : RefK) (hx : ExAt G S a) : Holds G H0 (σ.set i (some (.ref a.a))) S H (Γ.set i (Sl.ref a)) := by
  have other : ∀ {j : Nat} {s : Sl}, (Γ.set i (Sl.ref a))[j]? = some s → (∀ b, s ≠ Sl.ref b) → i ≠ j ∧ Γ[j]? = some s := fun {j s} q n => by
    by_cases z : i = j
    · subst z
      by_cases hl : i < Γ.length
      · rw [List.getElem?_set_self hl] at q; exact absurd (Option.some.inj q).symm (n a)
      · rw [List.getElem?_eq_none (by simpa using hl)] at q; cases q
    · rw [List.getElem?_set_ne z] at q; exact ⟨z, q⟩
  refine ⟨h.ex, h.e0, by simpa using h.len, fun j e q => ?_, fun j e q => ?_, fun j k d e p q1 q2 q3 q4 => ?_, fun j b q => ?_⟩
  · obtain ⟨n, q⟩ := other q (fun _ z => by cases z)
    rw [List.getElem?_set_ne n]
    exact h.val j e q
  · obtain ⟨n, q⟩ := other q (fun _ z => by cases z)
    rw [List.getElem?_set_ne n]
    exact h.own j e q
  · obtain ⟨n1, q1⟩ := other q1 (fun _ z => by cases z)
    obtain ⟨n2, q2⟩ := other q2 (fun _ z => by cases z)
    rw [List.getElem?_set_ne n1] at q3
    rw [List.getElem?_set_ne n2] at q4
    exact h.dis j k d e p q1 q2 q3 q4
  · by_cases z : i = j
    · subst z
      by_cases hl : i < Γ.length
      · rw [List.getElem?_set_self hl] at q
        cases q
        exact ⟨List.getElem?_set_self (Nat.lt_of_lt_of_le hl h.len), hx⟩
      · rw [List.getElem?_eq_none (by simpa using hl)] at q; cases q
    · rw [List.getElem?_set_ne z] at q ⊢
      exact h.ref j b q
theorem Holds.unset {G : GG} {H0 : Hp} {σ : L2.St} {S H : Hp} {Γ : Gam} (h : Holds G H0 σ S H Γ) {i : Nat} (hi : Γ[i]? = some Sl.unk) : Holds G H0 (σ.set i none) S H Γ := by
  have other : ∀ {j : Nat} {s : Sl}, Γ[j]? = some s → s ≠ Sl.unk → i ≠ j := fun {j s} q n z => by
    subst z
    rw [hi] at q
    exact n (Option.some.inj q).symm
  refine ⟨h.ex, h.e0, by simpa using h.len, fun j e q => ?_, fun j e q => ?_, fun j k d e p q1 q2 q3 q4 => ?_, fun j b q => ?_⟩
  · rw [List.getElem?_set_ne (other q (fun z => by cases z))]
    exact h.val j e q
  · rw [List.getElem?_set_ne (other q (fun z => by cases z))]
    exact h.own j e q
  · rw [List.getElem?_set_ne (other q1 (fun z => by cases z))] at q3
    rw [List.getElem?_set_ne (other q2 (fun z => by cases z))] at q4
    exact h.dis j k d e p q1 q2 q3 q4
  · rw [List.getElem?_set_ne (other q (fun z => by cases z))]
    exact h.ref j b q

/-- the body's end, or the suite's -/
def Ctl.tryC {X Y S : Type} (c : Ctl Y S) (tab : List Bool) (h : Exc → Y → Ctl X S) : Ctl X S := match c with
  | .stk => .stk
  | .exn e x => if tab[e.c]? = some true then (match h e x with
    | .exn _ _ => .stk
    | c => c) else .stk
  | .ret d => .ret d
  | .nx s => .nx s
section
variable {F : Fm} {Γ : Gam} {X Y S J : Type} {fx : X → Gam} {fy : Y → Gam} {fs : S → Gam} {fj : J → Gam} {x0 : X} {pos : Pos} {rest body suite : List Stmt} {b₀ : Stmt}
theorem bm_try {x n : Str} {tab : List Bool} {np pos' : Pos} {cb : Ctl Y J} {h : Exc → Y → Ctl X J} {k : J → Ctl X S} (i : Nat) (hi : F.N[i]? = some n) (hln : F.kd.lookup n = some .local) (K : XcN F.G x tab) (hg : F.kd.lookup x = some .globalImplicit) (ht : F.top = true)
    (hb : ∀ W', BM (tryF F W') body Γ (cb.out fy fj))
    (hs : ∀ a dd (e : Exc) y, ((e.fs = [] ∧ dd = none) ∨ (e.fs ≠ [] ∧ ∃ d, dd = some d)) → tab[e.c]? = some true → BM (suiteF F a (F.G.xc e.c) dd) (b₀ :: suite) ((fy y).set i (Sl.ref (refK a dd e))) ((h e y).out fx fj))
    (hj : ∀ j, (fj j)[i]? = some Sl.unk) (hr : ∀ j, BM F rest (fj j) ((k j).out fx fs)) :
    BM F (.Try body [.ExceptHandler (some (.Name x np)) (some n) (b₀ :: suite) pos'] [] [] pos :: rest) Γ (((cb.tryC tab h).bind k).out fx fs) := by
  obtain ⟨cv, vv, hnm, hrel, hun, hx⟩ := K.ex
  refine bm_cons (t := fun D σ H => cB (tryF F (wAs F.G.K cv i (fun a cls d => cB (suiteF F a cls d) (b₀ :: suite)) F.W D)) body D σ H) (fun Z hZ => ?_) fun S0 H0 Dn σ S H g hh po => ?_
  · obtain ⟨h1, h2, h3, h4, h5, h6⟩ := F.hX Z hZ
    obtain ⟨t1, t2, t3⟩ := F.ht ht Z hZ
    have hp := ps_try_as (X := Z) (x := x) (n := n) (c := cv) (i := i) (body := body) (suite := suite) (b₀ := b₀) (np := np) (pos := pos) (pos' := pos') (tb := fun W => cB (tryF F W) body) (ts := fun a cls d => cB (suiteF F a cls d) (b₀ :: suite)) (Wout := F.W) t1 t2 (by rw [h6]; exact F.nd) (by rw [h6]; exact hi) (by show Z.env.scope.names.lookup n = _; rw [F.hkd Z hZ]; exact hln)
      ⟨F.gl Z hZ hg, K.db, by rw [h4]; exact hnm⟩ (F.tk Z hZ) (fun W pn xe tk po => cB_ok (F := tryF F W) _ ⟨Z, pn, xe, hZ, tk, po, rfl⟩)
      (fun a oe cls d pn hz hf => cB_ok (F := suiteF F a cls d) _ ⟨Z, oe, pn, hZ, hz, hf, rfl⟩)
    rw [F.hK Z hZ] at hp
    exact hp
  · have po := OPo.seq (F := F) (nx := cB F rest Dn) (fj := fj) po fun j q σ S H g hh => (hr j).c S0 H0 Dn σ S H g hh q
    have hb := (hb (wAs F.G.K cv i (fun a cls d => cB (suiteF F a cls d) (b₀ :: suite)) F.W { Dn with nx := cB F rest Dn })).c S0 H0 { Dn with nx := cB F rest Dn } σ S H g hh
    refine hb ?_
    cases cb with
    | stk => exact po
    | ret d => exact po
    | nx j => exact po
    | exn e y =>
      intro cls dd σ1 S1 H1 g1 hΔ rx
      obtain ⟨Δ, hΔ, w⟩ := hΔ
      by_cases ht : tab[e.c]? = some true
      · have po : OPo F S0 H0 { Dn with nx := cB F rest Dn } ((match h e y with
            | .exn _ _ => (.stk : Ctl X J)
            | c => c).out fx fj) := by
          have : Ctl.tryC (.exn e y) tab h = (match h e y with
            | .exn _ _ => (.stk : Ctl X J)
            | c => c) := by
            show (if tab[e.c]? = some true then _ else _) = _
            rw [if_pos ht]
          rw [← this]
          exact po
        refine ⟨true, ?_, fun _ a ha => ?_, fun z => by cases z⟩
        · rw [rx.1]; exact (hx e.c true ht).1
        · have hsu := hs a dd e y (rx.2.elim .inl fun ⟨n, d, _, z, _⟩ => .inr ⟨n, d, z⟩) ht
          have hxa : ExAt F.G S1 (refK a dd e) := fun d1 fs1 z1 => by
            rcases rx.2 with ⟨_, n⟩ | ⟨_, d, vs, n, q1, q2, q3⟩
            · subst n
              cases z1
            · subst n
              cases z1
              exact ⟨vs, q1, q2, q3⟩
          have rx1 : cls = F.G.xc e.c := rx.1
          rw [← rx1] at hsu
          refine hsu.c S0 H0 _ _ S1 H1 g1 ((hΔ.weak w).raw i (refK a dd e) hxa) ?_
          revert po
          cases h e y with
          | stk => exact fun z => z
          | exn e' x' => exact fun z => False.elim z
          | ret d => exact fun z => z
          | nx j => exact fun z σ' S' H' g' h' => z _ S' H' g' (h'.unset (hj j))
      · have : Ctl.tryC (.exn e y) tab h = .stk := by
          show (if tab[e.c]? = some true then _ else _) = _
          rw [if_neg ht]
        rw [this] at po
        exact False.elim po

/-! ### isinstance(e, C) of the caught one -/
def isE (tab : List Bool) (c : Nat) : M D := match tab[c]? with
  | some b => .ok (.bl b)
  | none => .stk
theorem pe_nm {X : Cx} {x : Str} {v : V} {cv : Value} {pos : Pos} (hg : Gl X x) (h : X.mg x = some cv ∨ (X.mg x = none ∧ bootBuiltins x = some cv ∧ x ≠ "__name__")) (r : RelV v cv) (db : (x == ("__debug__" : Str)) = false) : PE X (.Name x pos) (tC v) := by
  rcases h with h | ⟨h, hb, hn⟩
  · exact pe_glob hg h r db
  · exact pe_bltn hg h hb r hn db
/-- isinstance(e, c), e what the suite holds, with or without a dict -/
def rIsX (K : PySem.W.Frag) (Dc a : Addr) (dd : Option Addr) : List V → Hp → VK → Prop := fun xs H Q => ∃ (c : V) (cv : Value) (b : Bool), xs = [.ref a, c] ∧ (∀ u, RelV c u → u = cv) ∧ PySem.W.kitOne K (.ref Dc) cv = some b ∧ (∀ d, dd = some d → ∃ vs, H d = some (.xd vs)) ∧ Q (.bl b) H
theorem call_isX {X : Cx} {a Dc : Addr} {dd : Option Addr} {oe : Obj} {pn : List (Addr × Obj)} (C : ExcC X.K Dc) (hz : Zc (.ref Dc) dd oe) (hf : ∃ vs, oe.data = .fields vs) : CallR (X.suite a ((a, oe) :: pn)) (.builtin "isinstance") (rIsX X.K Dc a dd) := by
  intro pins s σ H xs us Q I r h
  obtain ⟨c, cv, b, rfl, hcv, e, hdx, q⟩ := h
  cases r with
  | cons rx rr =>
    cases rr with
    | cons rt rr =>
      cases rr
      cases rx
      have ec := hcv _ rt
      subst ec
      obtain ⟨hget, _⟩ := I.pin (a, oe) (List.mem_append.mpr (.inl List.mem_cons_self))
      obtain ⟨vs, hv⟩ := hf
      obtain ⟨od, J⟩ : ∃ od, PySem.W.InstAt s.heap a oe Dc od := by
        obtain ⟨oc, odd, oda, osl⟩ := oe
        obtain ⟨h1, h2⟩ := hz
        dsimp only at h1 h2 hv
        subst h1 h2 hv
        cases odd with
        | none => exact ⟨none, hget, rfl, rfl, trivial⟩
        | some d =>
          obtain ⟨ws, hw⟩ := hdx d rfl
          have hx : ObjOk X.prog X.w H s.heap d (.xd ws) := I.hok d _ hw
          obtain ⟨mA, hns, hr⟩ := hx
          obtain ⟨od, ho, _⟩ := lookIn_ns hns
          exact ⟨some od, hget, rfl, rfl, ho⟩
      have hcl : (PySem.W.clsIn X.K Dc).isSome = true := by
        obtain ⟨cd, hc, _⟩ := PySem.W.any_some C.hd
        rw [hc]
        rfl
      exact PySem.W.kia_one (PySem.W.kitx_exc (od := od) (ox := oe) hcl C.hg C.hk C.hs C.ha C.hn C.ht C.hm) I.kIn J e (fun z => nomatch z) fun tk => ⟨.bl b, H, I.kept (t' := tk) fun _ _ z => z, rfl, q⟩
theorem em_isE {F : Fm} {Γ : Gam} {a : Addr} {dd : Option Addr} {rk : Option (Addr × List (Str × D))} {c : Nat} {x n : Str} {tab : List Bool} {p p1 p2 pos : Pos} (i : Nat) (K : XcN F.G x tab) (C : XcI F.G c) (hn : F.N[i]? = some n) (hv : F.V[i]? = some true) (hΓ : Γ[i]? = some (Sl.ref ⟨a, rk⟩)) (hrk : ∀ d, dd = some d → ∃ fs, rk = some (d, fs)) (hgi : F.kd.lookup ("isinstance" : Str) = some .globalImplicit) (hmi : F.G.mg "isinstance" = none) (hg : F.kd.lookup x = some .globalImplicit)
    (hd : (n == ("__debug__" : Str)) = false := by decide) (hcd : (n == ("__classdict__" : Str)) = false := by decide) :
    EM (suiteF F a (F.G.xc c) dd) (.Call (.Name "isinstance" p) [.Name n p1, .Name x p2] [] pos) Γ (isE tab c) := by
  obtain ⟨cv, vv, hnm, hrel, hun, hx⟩ := K.ex
  obtain ⟨Dc, hD, hC⟩ := C.ex
  refine ⟨tCB (rIsX F.G.K Dc a dd) (tCons (tVar i) (tCons (tC vv) tNil)), fun Z hZ => ?_, fun H0 σ S H Q hh po => ?_⟩
  · obtain ⟨X0, oe, pn, h0, hz, hf, rfl⟩ := hZ
    obtain ⟨h1, h2, h3, h4, h5, h6⟩ := F.hX X0 h0
    rw [hD] at hz
    have hcall := call_isX (X := X0) (a := a) (Dc := Dc) (oe := oe) (pn := pn) (by rw [h3]; exact hC) hz hf
    rw [h3] at hcall
    have q1 : PE (X0.suite a ((a, oe) :: pn)) (.Name n p1) (tVar i) := pe_var (by show X0.N[i]? = _; rw [h6]; exact hn) (F.vis X0 h0 i n hv hn) hd hcd
    have q2 : PE (X0.suite a ((a, oe) :: pn)) (.Name x p2) (tC vv) := pe_nm (F.gl X0 h0 hg) (by show X0.mg x = _ ∨ (X0.mg x = _ ∧ _); rw [h4]; exact hnm) hrel K.db
    exact pe_callB hcall (F.gl X0 h0 hgi) (by show X0.mg _ = _; rw [h4]; exact hmi) rfl (pa_cons q1 (pa_cons q2 pa_nil))
  · show ∃ v, σ[i]? = some (some v) ∧ _
    refine ⟨_, (hh.ref i _ hΓ).1, ?_⟩
    have hdx : ∀ d, dd = some d → ∃ vs, H d = some (.xd vs) := fun d z => by
      obtain ⟨fs, hf⟩ := hrk d z
      obtain ⟨vs, q, _⟩ := (hh.ref i _ hΓ).2 d fs hf
      exact ⟨vs, hh.ex _ _ q⟩
    unfold isE at po
    split at po
    · rename_i b hb
      refine ⟨vv, cv, b, rfl, hun, ?_, hdx, po.ok hh.ex _ (.bl _)⟩
      rw [← hD]
      exact (hx c b hb).2
    · exact False.elim po
end
end Mir
namespace Mir
open PySem PySem.Spec L2
open PyProof.Rows (envOfC)
open ClX (CRead CVal tCVal pe_cval)

section
variable {F : Fm} {Γ : Gam} {a b c e o : Expr} {es : List Expr} {ma mb mc m mo me : M D} {pos apos : Pos}
/-! ### two expressions, then a rule that sees the slots -/
def tOpS (r : L2.St → R2) (ta tb : TE) : TE := fun σ H Q => ta σ H fun x H1 => tb σ H1 fun y H2 => r σ x y H2 Q
def OpS (X : Cx) (f : Value → Value → Sem Value) (r : L2.St → R2) : Prop := ∀ (pins : List (Addr × Obj)) (s : Shared) (σ : L2.St) (H : Hp) (x y : V) (v u : Value) (Q : VK), Inv X pins σ H s → RelV x v → RelV y u → r σ x y H Q → wpAny (model X.prog X.w) X.A (f v u) (EP X pins σ Q) X.xe s
def RMS (F : Fm) (r : L2.St → R2) (f : D → D → M D) : Prop := ∀ x y vx vy σ S H Q, Ex S H → Rep F.G S vx x → Rep F.G S vy y → Po F.G (WE F.W σ) S H (KE F Q) (f x y) → r σ vx vy H Q
theorem em_opS {op : Operator} {r : L2.St → R2} {f : D → D → M D} (ho : ∀ X, F.Xs X → OpS X (binaryOp op) r) (hf : RMS F r f) (ha : EM F a Γ ma) (hb : EM F b Γ mb) : EM F (.BinOp a op b pos) Γ (b2 f ma mb) := by
  obtain ⟨ta, pa, ea⟩ := ha
  obtain ⟨tb, pb, eb⟩ := hb
  refine ⟨tOpS r ta tb, fun X hX => ⟨fun pins s σ H Q I h => ?_⟩, fun H0 σ S H Q hh p => ev2 ea eb hh p fun x y vx vy S2 H2 g rx ry q => hf x y vx vy σ S2 H2 Q g.sub rx ry q⟩
  exact wpAny_BinOp (binT (pa X hX) (pb X hX) I h fun v u s2 x y H2 I2 rx ry q => ho X hX pins s2 σ H2 x y v u Q I2 rx ry q)
theorem em_cmpS {op : CmpOp} {r : L2.St → R2} {f : D → D → M D} (ho : ∀ X, F.Xs X → OpS X (compareOp op) r) (hf : RMS F r f) (ha : EM F a Γ ma) (hb : EM F b Γ mb) (hm : behindInMarks op b = false) : EM F (.Compare a [op] [b] pos) Γ (b2 f ma mb) := by
  obtain ⟨ta, pa, ea⟩ := ha
  obtain ⟨tb, pb, eb⟩ := hb
  refine ⟨tOpS r ta tb, fun X hX => ⟨fun pins s σ H Q I h => ?_⟩, fun H0 σ S H Q hh p => ev2 ea eb hh p fun x y vx vy S2 H2 g rx ry q => hf x y vx vy σ S2 H2 Q g.sub rx ry q⟩
  exact wpAny_Compare1 (binT (pa X hX) (pb X hX) I h fun v u s2 x y H2 I2 rx ry q => ho X hX pins s2 σ H2 x y v u Q I2 rx ry q) hm
theorem tm_cmpS {op : CmpOp} {r : L2.St → R2} {f : D → D → M D} (ho : ∀ X, F.Xs X → OpS X (compareOp op) r) (hf : RMS F r f) (ha : EM F a Γ ma) (hb : EM F b Γ mb) (hm : behindInMarks op b = false) : TM F (.Compare a [op] [b] pos) Γ (b1 isB (b2 f ma mb)) := by
  obtain ⟨ta, pa, ea⟩ := ha
  obtain ⟨tb, pb, eb⟩ := hb
  refine ⟨tTest (tOpS r ta tb), fun X hX => ⟨fun pins s σ H Q I h => ?_⟩, fun H0 σ S H Q hh p => ?_⟩
  · refine wpAny_isTrue_Compare1 (thn ((pa X hX).run pins s σ H _ I h) fun v s1 ⟨x, H1, I1, r1, q1⟩ => thn ((pb X hX).run pins s1 σ H1 _ I1 q1) fun u s2 ⟨y, H2, I2, r2, q2⟩ =>
      thn (ho X hX pins s2 σ H2 x y v u _ I2 r1 r2 q2) fun c s3 ⟨z, H3, I3, r3, k, e, q3⟩ => ?_) hm
    subst e
    cases r3
    exact wpAny_truthy_bool ⟨H3, I3, q3⟩
  · refine ev2 (K := KE F fun x H' => ∃ k, x = .bl k ∧ Q k H') ea eb hh (Po.bind p |>.imp fun d S' H' g q v r => ?_) fun x y vx vy S2 H2 g rx ry q => hf x y vx vy σ S2 H2 _ g.sub rx ry q
    cases r with
    | bl k => exact ⟨k, rfl, Po.ok g.sub q⟩
    | _ => exact False.elim q

/-! ### isinstance -/
def tagD : D → Option String
  | .non => some "NoneType" | .bl _ => some "bool" | .int _ => some "int" | .str _ => some "str" | .lst _ => some "list" | .tup _ => some "tuple"
  | _ => none
/-- x is the name of a type: tb for the built-in ones' values, ob for the own classes' instances -/
structure TyN (G : GG) (x : Str) (tb : List (String × Bool)) (ob : List (Nat × Bool)) : Prop where
  ex : ∃ (cv : Value) (v : V), (G.mg x = some cv ∨ (G.mg x = none ∧ bootBuiltins x = some cv ∧ x ≠ "__name__")) ∧ RelV v cv ∧ ClsV v cv ∧ (∀ t b, tb.lookup t = some b → PySem.W.kitOne G.K (.type t) cv = some b) ∧
    (∀ c b, ob.lookup c = some b → PySem.W.kitOne G.K (.ref (G.ca c)) cv = some b ∧ Cls G.K (G.ca c) ∧ PySem.W.findIn G.K (.ref (G.ca c)) "__class__" = some (some (.builtin "object.__class__")) ∧
      PySem.W.specialIn G.K (.builtin "object.__class__") "__get__" = some (some (.builtin "getset_descriptor.__get__")) ∧ PySem.W.takesIn G.K (.builtin "object.__class__") = some true ∧ PySem.W.mroIn G.K (G.ca c) (.type "object") = some true)
  db : (x == ("__debug__" : Str)) = false
def isiT (tb : List (String × Bool)) (d : D) : M D := match tagD d with
  | some t => (match tb.lookup t with
    | some b => .ok (.bl b)
    | none => .stk)
  | none => .stk
def isiD (tb : List (String × Bool)) (ob : List (Nat × Bool)) (d : D) : M D := match d with
  | .obj c _ => (ofOpt (ob.lookup c)).bind fun b => .ok (.bl b)
  | d => isiT tb d
theorem isiT_po {G : GG} {E : XK} {S H : Hp} {K : D → Hp → Hp → Prop} {tb : List (String × Bool)} {d : D} (p : Po G E S H K (isiT tb d)) : ∃ t b, tagD d = some t ∧ tb.lookup t = some b ∧ Po G E S H K (.ok (.bl b)) := by
  unfold isiT at p
  split at p
  · rename_i t ht
    split at p
    · rename_i b hb
      exact ⟨t, b, ht, hb, p⟩
    · exact False.elim p
  · exact False.elim p
theorem rep_ty {G : GG} {S : Hp} {v : V} {d : D} {t : String} (r : Rep G S v d) (h : tagD d = some t) : TyOf G.K S v (.type t) := by
  cases r with
  | non => cases h; exact .non
  | bl b => cases h; exact .bl b
  | int b => cases h; exact .int b
  | str b => cases h; exact .str b
  | tup h1 r => cases h; exact .tup h1
  | lst h1 r => cases h; exact .lst h1
  | _ => cases h
theorem ty_mono {K : PySem.W.Frag} {S H : Hp} {v : V} {t : Value} (e : Ex S H) (h : TyOf K S v t) : TyOf K H v t := by
  cases h with
  | non => exact .non
  | bl x => exact .bl x
  | int x => exact .int x
  | str x => exact .str x
  | flt x => exact .flt x
  | lst q => exact .lst (e _ _ q)
  | frz q => exact .frz (e _ _ q)
  | tup q => exact .tup (e _ _ q)
  | dK q => exact .dK (e _ _ q)
  | dT q => exact .dT (e _ _ q)
  | ins q c1 c2 c3 c4 c5 => exact .ins (e _ _ q) c1 c2 c3 c4 c5
theorem em_isi {x : Str} {tb : List (String × Bool)} {ob : List (Nat × Bool)} {p p2 : Pos} (K : TyN F.G x tb ob) (hgi : F.kd.lookup ("isinstance" : Str) = some .globalImplicit) (hmi : F.G.mg "isinstance" = none) (hg : F.kd.lookup x = some .globalImplicit) (ha : EM F a Γ ma)
    (hst : ∀ X, F.Xs X → starEach [a, .Name x p2] X.env = [(false, eval a X.env), (false, eval (.Name x p2) X.env)] := by intros; rfl) :
    EM F (.Call (.Name "isinstance" p) [a, .Name x p2] [] pos) Γ (b1 (isiD tb ob) ma) := by
  obtain ⟨cv, vv, hnm, hrel, hcl, htb, hob⟩ := K.ex
  obtain ⟨ta, pa, ea⟩ := ha
  refine ⟨tCB (rIsi F.G.K) (tCons ta (tCons (tC vv) tNil)), fun X hX => ?_, fun H0 σ S H Q hh po => ?_⟩
  · obtain ⟨h1, h2, h3, h4, h5, h6⟩ := F.hX X hX
    have hc := call_isi (X := X)
    rw [h3] at hc
    have hst := hst X hX
    refine pe_callB hc (F.gl X hX hgi) (by rw [h4]; exact hmi) rfl (pa_cons (pa X hX) (pa_cons (pe_nm (F.gl X hX hg) (by rw [h4]; exact hnm) hrel K.db) pa_nil) (by rw [hst]; rfl)) (by decide) (by decide) (by rw [hst]; rfl) rfl
  · refine ea H0 σ S H _ hh (Po.bind po |>.imp fun d S1 H1 g1 k v r => ?_)
    by_cases hobj : ∃ c fs, d = .obj c fs
    · obtain ⟨c, fs, rfl⟩ := hobj
      cases r with
      | obj h1 h2 n r =>
        obtain ⟨b, hb, k⟩ := Po.opt (o := ob.lookup c) k
        obtain ⟨q1, q2, q3, q4, q5, q6⟩ := hob c b hb
        exact ⟨_, _, _, _, b, rfl, hcl, .base (.ins (g1.sub _ _ h1) q2 q3 q4 q5 q6), q1, k.ok g1.sub _ (.bl _)⟩
    · have e : isiD tb ob d = isiT tb d := by
        cases d with
        | obj c fs => exact absurd ⟨_, _, rfl⟩ hobj
        | _ => rfl
      rw [e] at k
      obtain ⟨t, b, ht, hb, k⟩ := isiT_po k
      exact ⟨_, _, _, _, b, rfl, hcl, .base (ty_mono g1.sub (rep_ty r ht)), htb _ b hb, k.ok g1.sub _ (.bl _)⟩

/-! ### 'x'.join(..), x.strip(chars) -/
def strsOf : List D → Option (List Str)
  | [] => some []
  | .str x :: ds => (strsOf ds).map (x :: ·)
  | _ => none
theorem reps_strs {G : GG} {S : Hp} : ∀ {ds : List D} {vs : List V} {ys : List Str}, Reps G S vs ds → strsOf ds = some ys → vs = ys.map V.str
  | [], _, _, .nil, e => by cases e; rfl
  | d :: ds, _, _, .cons h r, e => by
    cases d with
    | str x =>
      unfold strsOf at e
      cases q : strsOf ds with
      | none => rw [q] at e; cases e
      | some zs =>
        rw [q] at e
        cases e
        cases h
        rw [reps_strs r q]
        rfl
    | _ => cases e
def b2s (f : D → D → M D) (a b : M D) : M D := a.bind fun x => match x with
  | .str z => b.bind fun y => f (.str z) y
  | _ => .stk
theorem ev2s {to te : TE} {r : V → List V → Hp → VK → Prop} {f : D → D → M D} {H0 : Hp} {σ : L2.St} {S H : Hp} {Q : VK} (eo : EvM F to Γ mo) (ee : EvM F te Γ me) (hh : Holds F.G H0 σ S H Γ) (p : Po F.G (WE F.W σ) S H (KE F Q) (b2s f mo me))
    (h : ∀ z y vy S2 H2, Grow S H S2 H2 → Rep F.G S2 vy y → Po F.G (WE F.W σ) S2 H2 (KE F Q) (f (.str z) y) → r (.str z) [vy] H2 Q) : tM1 r to te σ H Q := by
  refine eo H0 σ S H _ hh ((Po.bind p).imp fun x S1 H1 g1 q1 vx rx => ?_)
  cases x with
  | str z =>
    cases rx
    refine ⟨⟨z, rfl⟩, ee H0 σ S1 H1 _ (hh.grow g1) ((Po.bind q1).imp fun y S2 H2 g2 q2 vy ry => h z y vy S2 H2 (g1.trans g2) ry q2)⟩
  | _ => exact False.elim q1
def pyJoin : D → D → M D
  | .str a, .lst ds => (ofOpt (strsOf ds)).bind fun ys => if (ys.map (·.length)).sum + ys.length * a.length ≤ 16777216 then .ok (.str (Txt.join a ys)) else .stk
  | _, _ => .stk
theorem em_join (ho : EM F o Γ mo) (he : EM F e Γ me) (hs : ∀ X, F.Xs X → starEach [e] X.env = [(false, eval e X.env)] := by intros; rfl) (hbase : ∀ X, F.Xs X → attributeBase o "join" X.env (eval o X.env) = eval o X.env := by intros; rfl) (hline : (apos.endLine == pos.line) = true := by rfl) :
    EM F (.Call (.Attribute o "join" apos) [e] [] pos) Γ (b2s pyJoin mo me) := by
  obtain ⟨to, po, eo⟩ := ho
  obtain ⟨te, pe, ee⟩ := he
  refine ⟨_, fun X hX => (by have h := pe_join (po X hX) (pe X hX) (hs X hX) (hbase X hX) hline; rw [F.hK X hX] at h; exact h), fun H0 σ S H Q hh p => ?_⟩
  refine ev2s eo ee hh p fun a y vy S2 H2 g ry q => ?_
  cases y with
  | lst ds =>
    obtain ⟨ys, hy, q⟩ := Po.opt (o := strsOf ds) q
    obtain ⟨hl, q⟩ := Po.gate (m := M.ok (D.str (Txt.join a ys))) q
    cases ry with
    | lst h1 r =>
      rw [reps_strs r hy] at h1
      exact ⟨a, _, ys, rfl, rfl, .inl (SqL.of (g.sub _ _ h1)), hl, q.ok g.sub _ (.str _)⟩
  | _ => exact False.elim q
def pyStripC : D → D → M D
  | .str a, .str b => if a.length ≤ sizeLine then .ok (.str (Txt.stripChars a b)) else .stk
  | _, _ => .stk
theorem em_stripC (ho : EM F o Γ mo) (he : EM F e Γ me) (hs : ∀ X, F.Xs X → starEach [e] X.env = [(false, eval e X.env)] := by intros; rfl) (hbase : ∀ X, F.Xs X → attributeBase o "strip" X.env (eval o X.env) = eval o X.env := by intros; rfl) (hline : (apos.endLine == pos.line) = true := by rfl) :
    EM F (.Call (.Attribute o "strip" apos) [e] [] pos) Γ (b2s pyStripC mo me) := by
  obtain ⟨to, po, eo⟩ := ho
  obtain ⟨te, pe, ee⟩ := he
  refine ⟨_, fun X hX => pe_m1 PySem.F.slot_str_strip PySem.F.type_str_strip mt_stripChars (po X hX) (pe X hX) (hs X hX) (hbase X hX) hline, fun H0 σ S H Q hh p => ?_⟩
  refine ev2s eo ee hh p fun a y vy S2 H2 g ry q => ?_
  cases y with
  | str b =>
    obtain ⟨hl, q⟩ := Po.gate (m := M.ok (D.str (Txt.stripChars a b))) q
    cases ry
    exact ⟨a, b, rfl, rfl, hl, q.ok g.sub _ (.str _)⟩
  | _ => exact False.elim q

/-! ### C.f, an int constant of a class -/
structure CInt (G : GG) (x f : Str) (i : Int) : Prop where
  ex : ∃ C mc u, G.mg x = some (.ref C) ∧ CRead G.K C mc ∧ CVal G.K C mc f (.int i) u
  db : (x == ("__debug__" : Str)) = false
theorem em_cint {x f : Str} {i : Int} {p : Pos} (K : CInt F.G x f i) (hg : F.kd.lookup x = some .globalImplicit) (hb : ∀ X, F.Xs X → attributeBase (.Name x p) f X.env (eval (.Name x p) X.env) = eval (.Name x p) X.env := by intros; rfl) :
    EM F (.Attribute (.Name x p) f pos) Γ (.ok (.int i)) := by
  obtain ⟨C, mc, u, hm, hr, hv⟩ := K.ex
  refine ⟨tCVal F.G.K (tC (.ref C)) f, fun X hX => ?_, fun H0 σ S H Q hh p => ⟨C, mc, _, u, rfl, hr, hv, p.ok hh.ex _ (.int i)⟩⟩
  obtain ⟨h1, h2, h3, h4, h5, h6⟩ := F.hX X hX
  have h := pe_cval (X := X) (pos := pos) (pe_glob (pos := p) (F.gl X hX hg) (by rw [h4]; exact hm) (v := .ref C) rfl K.db) (hb X hX)
  rw [h3] at h
  exact h
end
end Mir
namespace Mir
open PySem PySem.Spec L2
open PyProof.Rows (envOfC)

/-! ### an object's own methods by their names -/
structure DunK (G : GG) (k c : Nat) (name : Str) (m : List D → M D) : Prop where
  ex : ∃ f fd ps j, j + 1 ≤ k ∧ FnOk G.P G.w G.K G.mg G.base (L2.CX G.P G.w) j f fd ps (spM G m) ∧ PySem.W.findIn G.K (.ref (G.ca c)) name = some (some (.ref f)) ∧ PySem.W.isFn G.K (.ref f) = true ∧ PySem.W.fnIn G.K f = true ∧ Binds G.K fd ps []
theorem DunK.mono {G : GG} {j k c : Nat} {x : Str} {m : List D → M D} (h : DunK G j c x m) (l : j ≤ k) : DunK G k c x m := by
  obtain ⟨f, fd, ps, i, hi, r⟩ := h.ex
  exact ⟨f, fd, ps, i, Nat.le_trans hi l, r⟩
section
variable {X : Cx} {CX : CXT} {pins : List (Addr × Obj)} {σ : L2.St} {H : Hp} {s : Shared} {n : Nat} {f : Addr} {fd : FuncData} {ps : List Str} {sp : Sp} {E : XK}
theorem run_atS {A : Around} {Q : VK} {us : List Value} {ws : List V} (F : FnOk X.prog X.w X.K X.mg X.base CX n f fd ps sp) (hb : Binds X.K fd ps []) (hr : Room n A) (e0 : Env0 X.prog X.w X.K X.mg X.base A X.stack s H) (hx : PassesAt CX X σ E) (I : Inv X pins σ H s) (r : Vals ws us) (h : sp ws H Q E) :
    codeAny (model X.prog X.w) A (.call (.ref f) ⟨us, []⟩) (fun r s' => match r with | .ok (.ret v) => EP X pins σ Q v s' | .ok _ => False | .error e => X.xe e s') s := by
  have hl : us.length = ps.length := by rw [← r.length]; exact F.len _ _ _ _ h
  have b := hb s us I.kIn (by rw [List.append_nil]; exact hl)
  rw [List.append_nil] at b
  refine codeAny_mono (F.run A X.stack s H ⟨us, []⟩ us ws Q E hr e0 b r h) fun r s' hq => ?_
  cases r with
  | error e => exact hx pins H s e s' I hq
  | ok fl =>
    cases fl with
    | ret u => exact I.after hq
    | next => exact False.elim hq
    | brk => exact False.elim hq
    | cont => exact False.elim hq
theorem call_atS {A : Around} {Q : VK} {us : List Value} {ws : List V} (F : FnOk X.prog X.w X.K X.mg X.base CX n f fd ps sp) (hb : Binds X.K fd ps []) (hr : Room n A) (e0 : Env0 X.prog X.w X.K X.mg X.base A X.stack s H) (hx : PassesAt CX X σ E) (I : Inv X pins σ H s) (r : Vals ws us) (h : sp ws H Q E) :
    wpAny (model X.prog X.w) A (call (.ref f) us) (EP X pins σ Q) X.xe s := wpAny_call (run_atS F hb hr e0 hx I r h)
theorem ins_J {a C dx : Addr} {fs : List (Str × V)} (I : Inv X pins σ H s) (h : H a = some (.ins C dx fs)) : ∃ ox od, PySem.W.InstAt s.heap a ox C od := by
  obtain ⟨mA, O, _⟩ := ins_get I.hok h
  obtain ⟨od, J, _⟩ := O.look
  exact ⟨_, _, J⟩
end
section
variable {F : Fm} {Γ : Gam} {X S : Type} {fx : X → Gam} {fs : S → Gam} {x0 : X} {a b c e o : Expr} {es : List Expr} {ma mb mc m mo me : M D} {pos apos : Pos} {rest : List Stmt}
/-- what a family's member gives -/
theorem DunK.at {k c : Nat} {x : Str} {m : List D → M D} (K : DunK F.G F.k c x m) (X : Cx) (hX : F.Xs X) : ∃ f fd ps j, j + 1 ≤ F.k ∧ FnOk X.prog X.w X.K X.mg X.base (L2.CX X.prog X.w) j f fd ps (spM F.G m) ∧ PySem.W.findIn X.K (.ref (F.G.ca c)) x = some (some (.ref f)) ∧ PySem.W.isFn X.K (.ref f) = true ∧ PySem.W.fnIn X.K f = true ∧ Binds X.K fd ps [] := by
  obtain ⟨f, fd, ps, j, hj, ok, h⟩ := K.ex
  obtain ⟨h1, h2, h3, h4, h5, _⟩ := F.hX X hX
  rw [← h1, ← h2, ← h3, ← h4, ← h5] at ok
  rw [← h3] at h
  exact ⟨f, fd, ps, j, hj, ok, h⟩
/-- o[i], o an instance -/
def subO (c : Nat) (m : List D → M D) (x y : D) : M D := match x with
  | .obj c' fs => if c' = c then m [.obj c' fs, y] else .stk
  | _ => .stk
def rSubO (G : GG) (c : Nat) (m : List D → M D) (W : WX) : L2.St → R2 := fun σ x y H Q => ∃ a dx fs, x = .ref a ∧ H a = some (.ins (G.ca c) dx fs) ∧ spM G m [x, y] H Q (WE W σ)
theorem em_subO {c : Nat} {m : List D → M D} (K : DunK F.G F.k c "__getitem__" m) (hcm : F.cm = true) (ha : EM F a Γ ma) (hb : EM F b Γ mb)
    (hsl : ∀ v i, subscripted b true (.ref v) i = runValue (.builtin "lifetime.subscript" ⟨[.ref v, i], []⟩) := by intros; with_unfolding_all rfl) : EM F (.Subscript a b pos) Γ (b2 (subO c m) ma mb) := by
  obtain ⟨ta, pa, ea⟩ := ha
  obtain ⟨tb, pb, eb⟩ := hb
  refine ⟨tOpS (rSubO F.G c m F.W) ta tb, fun X hX => ⟨fun pins s σ H Q I h => ?_⟩, fun H0 σ S H Q hh p => ev2 ea eb hh p fun x y vx vy S2 H2 g rx ry q => ?_⟩
  · obtain ⟨f, fd, ps, j, hj, ok, h1, h2, h3, h4⟩ := K.at (k := 0) X hX
    refine PyProof.Rows.Subscript_ (thn ((pa X hX).run pins s σ H _ I h) fun u s1 ⟨x, H1, I1, rx, q1⟩ => thn ((pb X hX).run pins s1 σ H1 _ I1 q1) fun iv s2 ⟨y, H2, I2, ry, a', dx, fs', ex, ea', q2⟩ => ?_)
    subst ex
    obtain rfl : u = Value.ref a' := rx
    obtain ⟨ox, od, J⟩ := ins_J I2 ea'
    obtain ⟨mm, hF⟩ := I2.fr
    refine PySem.W.sub_K hF I2.ok.mod.kin J h1 h3 h2 (call_atS (us := [.ref a', iv]) (ws := [.ref a', y]) ok h4 (Room.in1 ((F.hr hcm X hX).mono hj)) I2.env0.in1 (passAt (F.tk X hX) σ) I2 (.cons rfl (.cons ry .nil)) q2) (hsl _ _)
  · cases x with
    | obj c' fs =>
      obtain ⟨hc, q'⟩ := Po.gate (m := m [.obj c' fs, y]) q
      subst hc
      cases rx with
      | obj h1 h2 n r => exact ⟨_, _, _, rfl, g.sub _ _ h1, S2, [.obj c' fs, y], g.sub, .cons (.obj h1 h2 n r) (.cons ry .nil), q'⟩
    | _ => exact False.elim q
/-- x in o, o an instance; its answer is True or False -/
def negB (neg : Bool) : D → M D
  | .bl b => .ok (.bl (if neg then !b else b))
  | _ => .stk
def inO (c : Nat) (m : List D → M D) (neg : Bool) (x y : D) : M D := match y with
  | .obj c' fs => if c' = c then b1 (negB neg) (m [.obj c' fs, x]) else .stk
  | _ => .stk
def rInO (G : GG) (c : Nat) (m : List D → M D) (W : WX) (neg : Bool) : L2.St → R2 := fun σ x y H Q => ∃ a dx fs, y = .ref a ∧ H a = some (.ins (G.ca c) dx fs) ∧ spM G m [y, x] H (fun z H' => ∃ b, z = .bl b ∧ Q (.bl (if neg then !b else b)) H') (WE W σ)
theorem rms_inO {c : Nat} {m : List D → M D} {neg : Bool} : RMS F (rInO F.G c m F.W neg) (inO c m neg) := by
  intro x y vx vy σ S H Q ex rx ry p
  cases y with
  | obj c' fs =>
    obtain ⟨hc, q⟩ := Po.gate (m := b1 (negB neg) (m [.obj c' fs, x])) p
    subst hc
    cases ry with
    | obj h1 h2 n r =>
      refine ⟨_, _, _, rfl, ex _ _ h1, S, [.obj c' fs, x], ex, .cons (.obj h1 h2 n r) (.cons rx .nil), (Po.bind q).imp fun d S1 H1 g1 k v rv => ?_⟩
      cases rv with
      | bl b => exact ⟨b, rfl, Po.ok (a := D.bl (if neg then !b else b)) g1.sub k _ (.bl _)⟩
      | _ => exact False.elim k
  | _ => exact False.elim p
theorem ops_inO {c : Nat} {m : List D → M D} (K : DunK F.G F.k c "__contains__" m) (hcm : F.cm = true) (X : Cx) (hX : F.Xs X) : OpS X (compareOp .In) (rInO F.G c m F.W false) := by
  intro pins s σ H x y v u Q I rx ry ⟨a', dx, fs', ey, ea', q⟩
  obtain ⟨f, fd, ps, j, hj, ok, h1, h2, h3, h4⟩ := K.at (k := 0) X hX
  subst ey
  obtain rfl : u = Value.ref a' := ry
  obtain ⟨ox, od, J⟩ := ins_J I ea'
  obtain ⟨mm, hF⟩ := I.fr
  refine PySem.W.in_K hF I.ok.mod.kin J h1 h2 (thn (call_atS (us := [.ref a', v]) (ws := [.ref a', x]) ok h4 ((F.hr hcm X hX).mono (Nat.le_of_succ_le hj)) I.env0 (passAt (F.tk X hX) σ) I (.cons rfl (.cons rx .nil)) q) fun w s1 ⟨z, H1, I1, rz, b, ez, q1⟩ => ?_)
  subst ez
  cases rz
  exact wpAny_truthy_bool ⟨.bl b, H1, I1, rfl, q1⟩
theorem ops_niO {c : Nat} {m : List D → M D} (K : DunK F.G F.k c "__contains__" m) (hcm : F.cm = true) (X : Cx) (hX : F.Xs X) : OpS X (compareOp .NotIn) (rInO F.G c m F.W true) := by
  intro pins s σ H x y v u Q I rx ry ⟨a', dx, fs', ey, ea', q⟩
  obtain ⟨f, fd, ps, j, hj, ok, h1, h2, h3, h4⟩ := K.at (k := 0) X hX
  subst ey
  obtain rfl : u = Value.ref a' := ry
  obtain ⟨ox, od, J⟩ := ins_J I ea'
  obtain ⟨mm, hF⟩ := I.fr
  refine PySem.W.notIn_K hF I.ok.mod.kin J h1 h2 (thn (call_atS (us := [.ref a', v]) (ws := [.ref a', x]) ok h4 ((F.hr hcm X hX).mono (Nat.le_of_succ_le hj)) I.env0 (passAt (F.tk X hX) σ) I (.cons rfl (.cons rx .nil)) q) fun w s1 ⟨z, H1, I1, rz, b, ez, q1⟩ => ?_)
  subst ez
  cases rz
  exact wpAny_truthy_bool ⟨.bl (!b), H1, I1, rfl, q1⟩
theorem em_inO {c : Nat} {m : List D → M D} (K : DunK F.G F.k c "__contains__" m) (hcm : F.cm = true) (ha : EM F a Γ ma) (hb : EM F b Γ mb) (hm : behindInMarks .In b = false) : EM F (.Compare a [.In] [b] pos) Γ (b2 (inO c m false) ma mb) :=
  em_cmpS (fun X hX => ops_inO K hcm X hX) rms_inO ha hb hm
theorem tm_inO {c : Nat} {m : List D → M D} (K : DunK F.G F.k c "__contains__" m) (hcm : F.cm = true) (ha : EM F a Γ ma) (hb : EM F b Γ mb) (hm : behindInMarks .In b = false) : TM F (.Compare a [.In] [b] pos) Γ (b1 isB (b2 (inO c m false) ma mb)) :=
  tm_cmpS (fun X hX => ops_inO K hcm X hX) rms_inO ha hb hm

/-! ### an instance is made -/
abbrev FsD := List (Str × D)
/-- what __init__ of class c does: the fields -/
def spI (G : GG) (c : Nat) (m : List D → M FsD) : Sp := fun vs H Q E => ∃ S H1 ds x dx rest, vs = .ref x :: rest ∧ H = upd (upd H1 dx (.own x)) x (.ins (G.ca c) dx []) ∧ H1 x = none ∧ H1 dx = none ∧ dx ≠ x ∧ Ex S H1 ∧ Reps G S rest ds ∧
  Po G E S H1 (fun fs S' H' => S' x = none → OwnAt G H1 S' H' x (.obj c fs) → Q .non H') (m ds)
structure MkK (G : GG) (k c : Nat) (x : Str) (m : List D → M FsD) : Prop where
  ex : ∃ f fd ps j, j + 1 ≤ k ∧ FnOk G.P G.w G.K G.mg G.base (L2.CX G.P G.w) j f fd ps (spI G c m) ∧ G.mg x = some (.ref (G.ca c)) ∧ Mk G.K (G.ca c) f ∧ Binds G.K fd ps []
theorem MkK.mono {G : GG} {j k c : Nat} {x : Str} {m : List D → M FsD} (h : MkK G j c x m) (l : j ≤ k) : MkK G k c x m := by
  obtain ⟨f, fd, ps, i, hi, r⟩ := h.ex
  exact ⟨f, fd, ps, i, Nat.le_trans hi l, r⟩
def mkO (c : Nat) (m : List D → M FsD) (ds : List D) : M D := (m ds).bind fun fs => .ok (.obj c fs)
def tMakeS (C : Addr) (sp : Sp) (E : L2.St → XK) (t : TA) : TE := fun σ H Q => t σ H fun vs H1 => ∀ x dx, H1 x = none → H1 dx = none → dx ≠ x →
  sp (.ref x :: vs) (upd (upd H1 dx (.own x)) x (.ins C dx [])) (fun v H2 => v = .non ∧ Q (.ref x) H2) (E σ)
theorem run_makeS {X : Cx} {CX : CXT} {k : Nat} {f C : Addr} {fd : FuncData} {ps : List Str} {sp : Sp} {E : XK} {pins : List (Addr × Obj)} {σ : L2.St} {H : Hp} {s : Shared} {Q : VK} {us : List Value} {vs : List V} (M : Mk X.K C f) (F : FnOk X.prog X.w X.K X.mg X.base CX k f fd ps sp) (hr : Room (k + 1) X.A) (hb : Binds X.K fd ps [])
    (hx : PassesAt CX X σ E) (I : Inv X pins σ H s) (r : Vals vs us)
    (h : ∀ x dx, H x = none → H dx = none → dx ≠ x → sp (.ref x :: vs) (upd (upd H dx (.own x)) x (.ins C dx [])) (fun v H2 => v = .non ∧ Q (.ref x) H2) E) :
    wpAny (model X.prog X.w) X.A (call (.ref C) us) (EP X pins σ Q) X.xe s := by
  have hq := h (s.heap.objs.size + 1) s.heap.objs.size (I.hok.fresh (Nat.le_succ _)) (I.hok.fresh (Nat.le_refl _)) (Nat.ne_of_lt (Nat.lt_succ_self _))
  have I2 := Inv.made (C := C) I
  have r2 : Vals (V.ref (s.heap.objs.size + 1) :: vs) (Value.ref (s.heap.objs.size + 1) :: us) := .cons rfl r
  have hl : (Value.ref (s.heap.objs.size + 1) :: us).length = ps.length := by
    have e := r2.length
    rw [F.len _ _ _ _ hq] at e
    exact e.symm
  have b := hb _ (Value.ref (s.heap.objs.size + 1) :: us) I2.kIn (by rw [List.append_nil]; exact hl)
  rw [List.append_nil] at b
  refine wpAny_call (make_map (f := f) I.kIn M.makes M.init (beq_iff_eq.mp M.fn) (codeAny_mono (F.run _ X.stack _ _ ⟨Value.ref (s.heap.objs.size + 1) :: us, []⟩ (Value.ref (s.heap.objs.size + 1) :: us) _ _ E (hr.make C us [])
    (I2.env0.make C us []) b r2 hq) fun r s' hq' => ?_))
  cases r with
  | error e => exact hx pins _ _ e s' I2 hq'
  | ok fl =>
    cases fl with
    | ret u =>
      obtain ⟨v, H', I3, rv, ev, q3⟩ := I2.after hq'
      subst ev
      exact ⟨rv, ⟨V.ref (s.heap.objs.size + 1), H', I3, rfl, q3⟩⟩
    | next => exact False.elim hq'
    | brk => exact False.elim hq'
    | cont => exact False.elim hq'
/-- all of it is everybody's -/
theorem own_done {G : GG} {S H1 S' H' : Hp} {x : Addr} {c : Nat} {fs : FsD} (g : Grow S H1 S' H') (h1 : H1 x = none) (sx : S' x = none) (o : OwnAt G H1 S' H' x (.obj c fs)) : ∃ S'', Grow S H1 S'' H' ∧ Rep G S'' (.ref x) (.obj c fs) := by
  obtain ⟨dx, vs, e1, e2, e3, e4, n, r⟩ := o
  have ne : dx ≠ x := fun z => by subst z; rw [e1] at e2; cases e2
  have q1 : Ex S' (upd S' dx (.own x)) := ex_upd e3
  have q2 : Ex (upd S' dx (.own x)) (upd (upd S' dx (.own x)) x (.ins (G.ca c) dx vs)) := ex_upd (by rw [upd_ne (Ne.symm ne)]; exact sx)
  refine ⟨upd (upd S' dx (.own x)) x (.ins (G.ca c) dx vs), ⟨(g.s.trans q1).trans q2, g.h, fun a u q => ?_, fun p z1 z2 => ?_⟩, .obj upd_same (by rw [upd_ne ne, upd_same]) n ((r.mono q1).mono q2)⟩
  · by_cases za : a = x
    · subst za; rw [upd_same] at q; rw [e1]; exact q
    · rw [upd_ne za] at q
      by_cases zd : a = dx
      · subst zd; rw [upd_same] at q; rw [e2]; exact q
      · rw [upd_ne zd] at q; exact g.sub a u q
  · have n1 : p ≠ x := fun z => by subst z; exact z1.ne h1
    have n2 : p ≠ dx := fun z => by subst z; exact z1.ne e4
    rw [upd_ne n1, upd_ne n2]
    exact g.sep p z1 z2
theorem em_make {c : Nat} {x : Str} {m : List D → M FsD} {ml : M (List D)} {p : Pos} (K : MkK F.G F.k c x m) (hcm : F.cm = true) (hg : F.kd.lookup x = some .globalImplicit) (ha : AM F (e :: es) Γ ml) (hdb : (x == ("__debug__" : Str)) = false := by decide)
    (he : ∀ X, F.Xs X → starEach (e :: es) X.env = (false, eval e X.env) :: starEach es X.env := by intros; rfl) (hpl : ∀ X, F.Xs X → (backTo pos (starEach es X.env)).any (·.1) = false := by intros; rfl) : EM F (.Call (.Name x p) (e :: es) [] pos) Γ (b1 (mkO c m) ml) := by
  obtain ⟨t, q, g⟩ := ha
  refine ⟨tMakeS (F.G.ca c) (spI F.G c m) (WE F.W) t, fun X hX => ⟨fun pins s σ H Q I h => ?_⟩, fun H0 σ S H Q hh po => ?_⟩
  · obtain ⟨f, fd, ps, j, hj, ok, hm, M, hb⟩ := K.ex
    obtain ⟨h1, h2, h3, h4, h5, _⟩ := F.hX X hX
    rw [← h1, ← h2, ← h3, ← h4, ← h5] at ok
    rw [← h4] at hm
    rw [← h3] at M hb
    refine wpAny_Call_Name_kw (ld_glob I (F.gl X hX hg) hm ?_ hdb)
    refine PySem.W.callWith_K (h₀ := X.base) I.ok.mod.kin M.kp (thn ((q X hX).run pos pins s σ H _ I h) fun us s1 ⟨vs, H1, I1, r, q⟩ => ⟨I1.kIn, ?_⟩) (he X hX) (hpl X hX)
    exact run_makeS M ok ((F.hr hcm X hX).mono hj) hb (passAt (F.tk X hX) σ) I1 r q
  · refine g H0 σ S H _ hh (Po.bind po |>.imp fun ds S1 H1 g1 k vs r x dx hx hdx ne => ?_)
    refine ⟨S1, H1, ds, x, dx, vs, rfl, rfl, hx, hdx, ne, g1.sub, r, ?_⟩
    unfold mkO at k
    revert k
    cases m ds with
    | stk => exact fun k => k
    | exn e => exact fun k => k
    | ok fs =>
      intro k S2 H2 g2 sx o
      obtain ⟨S3, g3, rep⟩ := own_done g2 hx sx o
      exact ⟨rfl, k S3 H2 g3 _ rep⟩

/-! ### o.f = e, o an own instance -/
def putFD (f : Str) (v : D) : FsD → FsD
  | [] => [(f, v)]
  | (g, x) :: r => if g = f then (g, v) :: r else (g, x) :: putFD f v r
theorem putF_rep {G : GG} {S : Hp} {f : Str} {v : V} {d : D} (h : Rep G S v d) : ∀ {vs : List (Str × V)} {fs : FsD}, vs.map (·.1) = fs.map (·.1) → Reps G S (vs.map (·.2)) (fs.map (·.2)) → (putF f v vs).map (·.1) = (putFD f d fs).map (·.1) ∧ Reps G S ((putF f v vs).map (·.2)) ((putFD f d fs).map (·.2))
  | [], [], _, _ => ⟨rfl, .cons h .nil⟩
  | (a, u) :: vs, (b, x) :: fs, n, .cons q r => by
    obtain ⟨n1, n2⟩ := List.cons.inj n
    have n1 : a = b := n1
    subst n1
    unfold putF putFD
    by_cases z : a = f
    · rw [if_pos z, if_pos z]
      exact ⟨congrArg (a :: ·) n2, .cons h r⟩
    · rw [if_neg z, if_neg z]
      obtain ⟨i1, i2⟩ := putF_rep h n2 r
      exact ⟨congrArg (a :: ·) i1, .cons q i2⟩
  | [], _ :: _, n, _ => by cases n
  | _ :: _, [], n, _ => by cases n
def fsetM (f : Str) (fs : FsD) (m : M D) : M FsD := m.bind fun y => if fs.length < 1000 then .ok (putFD f y fs) else .stk
theorem bm_fset {c : Nat} {f n : Str} {x : Addr} {ff : FsD} {p1 p2 : Pos} {k : FsD → Ctl X S} (i : Nat) (K : Fld F.G c f) (hn : F.N[i]? = some n) (hv : F.V[i]? = some true) (hΓ : Γ[i]? = some (Sl.own (.slf x c ff))) (he : EM F e Γ m) (w : Weak Γ (fx x0))
    (hr : ∀ ff', BM F rest (Γ.set i (Sl.own (.slf x c ff'))) ((k ff').out fx fs)) (hd : (n == ("__debug__" : Str)) = false := by decide) (hcd : (n == ("__classdict__" : Str)) = false := by decide)
    (hs : ∀ X, F.Xs X → swapsWith e (some (.Attribute (.Name n p1) f p2)) pos.line X.env = pure false := by intros; rfl) :
    BM F (.Assign [.Attribute (.Name n p1) f p2] e pos :: rest) Γ (((fsetM f ff m).bindC x0 k).out fx fs) := by
  obtain ⟨t, q, g⟩ := he
  refine bm_cons (t := sFld F.G.K (tVar i) t f) (fun X hX => ?_) fun S0 H0 Dn σ S H gr hh po => ?_
  · have hp := ps_fld (X := X) (pos := pos) (pos' := p2) (f := f) (ha := pe_var (i := i) (pos := p1) (by rw [F.hN X hX]; exact hn) (F.vis X hX i n hv hn) hd hcd) (q X hX) (hs X hX)
    rw [F.hK X hX] at hp
    exact hp
  · have po := opo_bind gr hh w po
    refine g H0 σ S H _ hh ((Po.bind po).imp fun y S1 H1 g1 k1 v r => ?_)
    obtain ⟨hl, k2⟩ := Po.gate (m := M.ok (putFD f y ff)) k1
    have h1 := hh.grow g1
    obtain ⟨a, ha, hs0, hh0, oa⟩ := h1.own i _ hΓ
    obtain ⟨hax, dx, vs, e1, e2, e3, e4, nn, rr⟩ := oa
    obtain ⟨gk, _, pk⟩ := Po.ok g1.sub k2
    have hlen : vs.length = ff.length := by have := congrArg List.length nn; simpa using this
    refine ⟨.ref a, ha, a, _, dx, vs, rfl, e1, K.cl, K.no, by rw [hlen]; exact hl, ?_⟩
    obtain ⟨n2, r2⟩ := putF_rep (f := f) r nn rr
    have ne : dx ≠ a := fun z => by subst z; rw [e1] at e2; cases e2
    exact (hr _).c S0 H0 Dn σ S1 _ (gk.own hs0 hh0) (h1.ownUpd (d' := .slf x c (putFD f y ff)) hΓ ha hs0 hh0 (fun b z => by rw [e1] at z; cases z) ⟨hax, dx, _, upd_same, by rw [upd_ne ne]; exact e2, e3, e4, n2, r2⟩) pk
end

/-! ### an __init__ -/
def Ctl.toF {X : Type} : Ctl X FsD → M FsD
  | .stk => .stk
  | .exn e _ => .exn e
  | .ret _ => .stk
  | .nx d => .ok d
theorem init_ok {G : GG} {c : Nat} {name qual : Str} {st : Stmt} {f : Addr} {fd : FuncData} {N ps : List Str} {k : Nat} {m : List D → M FsD} (V : List Bool) (kd : List (Str × NameKind)) (Fn : Fun G.K name qual st f fd) (Sc : FnScope N ps (defScope st))
    (hv : visL N V kd = true) (hkd : (defScope st).names = kd) (har : ∀ ds, m ds ≠ .stk → ds.length + 1 = ps.length)
    (hB : ∀ x cdv A outer s H E hr ds, ds.length + 1 = ps.length → ∃ cc : Ctl Unit FsD, m ds = cc.toF ∧ BM (mkF G Sc V kd hv hkd k qual f cdv A outer s H E hr) (defBody st) (Sl.own (.slf x c []) :: (ds.map Sl.val ++ List.replicate (N.length - (ds.length + 1)) Sl.unk)) (cc.out (fun _ => []) (fun d => Sl.own (.slf x c d) :: List.replicate (N.length - 1) Sl.unk))) :
    FnOk G.P G.w G.K G.mg G.base (L2.CX G.P G.w) (k + 1) f fd ps (spI G c m) := by
  have hpl : ps.length ≤ N.length := by have := congrArg List.length Sc.pre; rw [List.length_take] at this; omega
  refine Fun.okX Fn Sc (fun vs H Q E h => ?_) (fun cdv A outer s H vs Q E hr h => ?_)
  · obtain ⟨S, H1, ds, x, dx, rest, rfl, rfl, hx, hdx, ne, e, r, p⟩ := h
    show rest.length + 1 = _
    rw [r.length]
    exact har ds fun z => by rw [z] at p; exact p
  · obtain ⟨S, H1, ds, x, dx, rest, rfl, rfl, hx, hdx, ne, e, r, p⟩ := h
    have hl : ds.length + 1 = ps.length := har ds fun z => by rw [z] at p; exact p
    obtain ⟨cc, hc, t, ht, d⟩ := hB x cdv A outer s _ E hr ds hl
    refine ⟨t, ht _ rfl, ?_⟩
    have g1 : Grow S H1 S (upd H1 dx (.own x)) := Grow.newOwn e hdx
    have hx2 : upd H1 dx (.own x) x = none := by rw [upd_ne (Ne.symm ne)]; exact hx
    have g2 : Grow S H1 S (upd (upd H1 dx (.own x)) x (.ins (G.ca c) dx [])) := g1.trans (Grow.newOwn g1.sub hx2)
    have st0 := starts (N := N) e (.cons .non r) (by show rest.length + 1 ≤ _; rw [r.length]; omega)
    have st1 : Holds G H1 (L2.start N (.ref x :: rest)) S _ (Sl.own (.slf x c []) :: (ds.map Sl.val ++ List.replicate (N.length - (ds.length + 1)) Sl.unk)) :=
      st0.setOwn (i := 0) (p := x) (d := .slf x c []) g2 (sub_none e hx) hx ⟨rfl, dx, [], upd_same, by rw [upd_ne ne, upd_same], sub_none e hdx, hdx, rfl, .nil⟩
    refine d S H1 _ (L2.start N (.ref x :: rest)) S _ g2 st1 ?_
    rw [hc] at p
    cases cc with
    | stk => exact p
    | exn x u => exact fun cls dd σ S' H' g _ rx => p cls dd S' H' g rx
    | ret d => exact False.elim p
    | nx d' =>
      intro σ S' H' g hh
      obtain ⟨q, hq, hs, h0, rfl, oa⟩ := hh.own 0 _ rfl
      exact p S' H' g hs oa
end Mir
namespace Mir
open PySem PySem.Spec L2
open PyProof.Rows (envOfC)

/-! ### a dict from ints to ints that stands in the program -/
def entOk : List DictEntry → List (Int × Int) → Bool
  | [], [] => true
  | e :: es, (k, v) :: r => (match e.key with | .int i _ => decide (i = k) | _ => false) && decide (e.hash = hashInt k) && (match e.val with | .int i _ => decide (i = v) | _ => false) && entOk es r
  | _, _ => false
def kdOk (K : PySem.W.Frag) (a : Addr) (kvs : List (Int × Int)) : Bool := match K.lookup a with
  | some ⟨.type t, none, .dict es _, sl⟩ => t == "dict" && sl.toList.isEmpty && entOk es.toList kvs && !(a == sysModules) && decide ((kvs.map (·.1)).Nodup)
  | _ => false
structure KdI (G : GG) (x : Str) (kvs : List (Int × Int)) : Prop where
  ex : ∃ a, G.mg x = some (.ref a) ∧ kdOk G.K a kvs = true
  db : (x == ("__debug__" : Str)) = false
theorem entOk_pairs {P : Program} {w : World} : ∀ {es : List DictEntry} {kvs : List (Int × Int)}, entOk es kvs = true → ∃ vs : List (Key × Value), Pairs (mixKind P w) es vs ∧ vs.map (·.1) = kvs.map (fun p => (Sum.inl p.1 : Key)) ∧
    (∀ e ∈ es, ∃ k, (mixKind P w).is k e.key = true ∧ e.hash = (mixKind P w).hash k) ∧ (∀ i v, kvs.lookup i = some v → ∃ t, valueAt vs (.inl i) = some (.int v t)) ∧ (∀ i, kvs.lookup i = none → valueAt vs (.inl i) = none)
  | [], [], _ => ⟨[], .nil, rfl, fun e he => absurd he (by simp), fun i v h => (by cases h), fun i _ => rfl⟩
  | e :: es, (k, v) :: r, h => by
    unfold entOk at h
    rw [Bool.and_eq_true, Bool.and_eq_true, Bool.and_eq_true] at h
    obtain ⟨⟨⟨h1, h2⟩, h3⟩, h4⟩ := h
    obtain ⟨vs, p1, p2, p3, p4, p5⟩ := entOk_pairs (P := P) (w := w) h4
    split at h1
    · rename_i i t hk
      have h1 := of_decide_eq_true h1
      subst h1
      split at h3
      · rename_i j u hv
        have h3 := of_decide_eq_true h3
        subst h3
        have kis : (mixKind P w).is (Sum.inl i) e.key = true := by rw [hk]; exact keyIs_int i t
        refine ⟨(.inl i, e.val) :: vs, .cons kis rfl p1, by simp [p2], fun e' he => ?_, fun i' v' h' => ?_, fun i' h' => ?_⟩
        · rcases List.mem_cons.mp he with z | z
          · subst z; exact ⟨.inl i, kis, of_decide_eq_true h2⟩
          · exact p3 e' z
        · rw [List.lookup_cons] at h'
          unfold valueAt
          rw [List.find?_cons]
          by_cases z : i' = i
          · subst z
            simp only [beq_self_eq_true] at h'
            cases h'
            simp only [decide_true, Option.map]
            exact ⟨u, by rw [hv]⟩
          · have zb : (i' == i) = false := by simpa using z
            rw [zb] at h'
            have zd : decide ((Sum.inl i : Key) = Sum.inl i') = false := decide_eq_false fun q => z (Sum.inl.inj q).symm
            simp only [zd]
            exact p4 i' v' h'
        · rw [List.lookup_cons] at h'
          unfold valueAt
          rw [List.find?_cons]
          by_cases z : i' = i
          · subst z
            simp only [beq_self_eq_true] at h'
            cases h'
          · have zb : (i' == i) = false := by simpa using z
            rw [zb] at h'
            have zd : decide ((Sum.inl i : Key) = Sum.inl i') = false := decide_eq_false fun q => z (Sum.inl.inj q).symm
            simp only [zd]
            exact p5 i' h'
      · cases h3
    · cases h1
  | [], _ :: _, h => by cases h
  | _ :: _, [], h => by cases h
theorem kd_dict {X : Cx} {pins : List (Addr × Obj)} {σ : L2.St} {H : Hp} {s : Shared} {a : Addr} {kvs : List (Int × Int)} (I : Inv X pins σ H s) (h : kdOk X.K a kvs = true) :
    (a == sysModules) = false ∧ ∃ vs, s.heap.DictOf (mixKind X.prog X.w) a vs ∧ (∀ i v, kvs.lookup i = some v → ∃ t, valueAt vs (.inl i) = some (.int v t)) ∧ (∀ i, kvs.lookup i = none → valueAt vs (.inl i) = none) := by
  unfold kdOk at h
  split at h
  · rename_i t es n sl ho
    simp only [Bool.and_eq_true, beq_iff_eq, Bool.not_eq_true', decide_eq_true_eq] at h
    obtain ⟨⟨⟨⟨rfl, hsl⟩, h1⟩, h2⟩, h3⟩ := h
    have hsl : sl = #[] := by
      obtain ⟨l⟩ := sl
      cases l with
      | nil => rfl
      | cons _ _ => cases hsl
    subst hsl
    obtain ⟨vs, p1, p2, p3, p4, p5⟩ := entOk_pairs (P := X.prog) (w := X.w) h1
    refine ⟨by simpa using h2, vs, ⟨_, es, n, I.kIn _ _ ho, ⟨rfl, rfl, rfl⟩, rfl, fun e he => p3 e (by simpa using he), p1, ?_⟩, p4, p5⟩
    rw [p2]
    have := h3
    rw [List.nodup_iff_pairwise_ne] at *
    rw [List.pairwise_map] at this ⊢
    exact this.imp fun q z => q (Sum.inl.inj z)
  · cases h
def kdGet (kvs : List (Int × Int)) : D → M D
  | .int i => (ofOpt (kvs.lookup i)).bind fun v => .ok (.int v)
  | _ => .stk
def kdIn (kvs : List (Int × Int)) (neg : Bool) : D → M D
  | .int i => .ok (.bl (if neg then !(kvs.lookup i).isSome else (kvs.lookup i).isSome))
  | _ => .stk
section
variable {F : Fm} {Γ : Gam} {b : Expr} {mb : M D} {x : Str} {kvs : List (Int × Int)} {pos p : Pos}
theorem em_kdIx (K : KdI F.G x kvs) (hg : F.kd.lookup x = some .globalImplicit) (hb : EM F b Γ mb) (hs : PlainIx b) : EM F (.Subscript (.Name x p) b pos) Γ (b1 (kdGet kvs) mb) := by
  obtain ⟨a, hm, hk⟩ := K.ex
  obtain ⟨tb, pb, eb⟩ := hb
  refine ⟨fun σ H Q => tb σ H fun y H1 => ∃ i v, y = .int i ∧ kvs.lookup i = some v ∧ Q (.int v) H1, fun X hX => ⟨fun pins s σ H Q I h => ?_⟩, fun H0 σ S H Q hh po => ?_⟩
  · obtain ⟨h1, h2, h3, h4, h5, h6⟩ := F.hX X hX
    refine subD_of PySem.F.slot_dict_getitem.lookup hs (ld_glob I (F.gl X hX hg) (by rw [h4]; exact hm) ?_ K.db)
    refine thn ((pb X hX).run pins s σ H _ I h) fun iv s2 ⟨y, H2, I2, ry, i, v, ey, hl, q2⟩ => ?_
    subst ey
    obtain ⟨t, rfl⟩ := ry
    obtain ⟨hd, vs, dd, g1, _⟩ := kd_dict I2 (by rw [h3]; exact hk)
    obtain ⟨t2, hv⟩ := g1 i v hl
    exact ⟨dd.typeIs, wpAny_getItem_of (knd := mixKind X.prog X.w) (k := .inl i) (keyIs_int i t) dd.mapOf hv ⟨.int v, H2, I2.tok _, ⟨t2, rfl⟩, q2⟩⟩
  · refine eb H0 σ S H _ hh ((Po.bind po).imp fun y S1 H1 g1 k1 v r => ?_)
    cases y with
    | int i =>
      obtain ⟨w, hw, k2⟩ := Po.opt (o := kvs.lookup i) k1
      cases r
      exact ⟨i, w, rfl, hw, k2.ok g1.sub _ (.int w)⟩
    | _ => exact False.elim k1
def rKdIn (K : PySem.W.Frag) (kvs : List (Int × Int)) (neg : Bool) : R2 := fun x y H Q => ∃ a i, x = .int i ∧ y = .ref a ∧ kdOk K a kvs = true ∧ Q (.bl (if neg then !(kvs.lookup i).isSome else (kvs.lookup i).isSome)) H
theorem kd_some {kvs : List (Int × Int)} {vs : List (Key × Value)} {i : Int} (g1 : ∀ i v, kvs.lookup i = some v → ∃ t, valueAt vs (.inl i) = some (.int v t)) (g2 : ∀ i, kvs.lookup i = none → valueAt vs (.inl i) = none) : (valueAt vs (.inl i : Key)).isSome = (kvs.lookup i).isSome := by
  cases q : kvs.lookup i with
  | none => rw [g2 i q]; rfl
  | some v => obtain ⟨t, e⟩ := g1 i v q; rw [e]; rfl
theorem op_kdIn {X : Cx} {kvs : List (Int × Int)} : OpR X (compareOp .In) (rKdIn X.K kvs false) := by
  intro pins s σ H x y v u Q I rx ry ⟨a, i, ex, ey, hk, q⟩
  subst ex ey
  obtain ⟨t, rfl⟩ := rx
  obtain rfl : u = Value.ref a := ry
  obtain ⟨hd, vs, dd, g1, g2⟩ := kd_dict I hk
  refine wpAny_in_of (knd := mixKind X.prog X.w) (k := .inl i) (keyIs_int i t) hd dd.mapOf ?_
  rw [kd_some g1 g2]
  exact ⟨.bl _, H, I.tok _, rfl, q⟩
theorem op_kdNi {X : Cx} {kvs : List (Int × Int)} : OpR X (compareOp .NotIn) (rKdIn X.K kvs true) := by
  intro pins s σ H x y v u Q I rx ry ⟨a, i, ex, ey, hk, q⟩
  subst ex ey
  obtain ⟨t, rfl⟩ := rx
  obtain rfl : u = Value.ref a := ry
  obtain ⟨hd, vs, dd, g1, g2⟩ := kd_dict I hk
  refine wpAny_notIn_of (knd := mixKind X.prog X.w) (k := .inl i) (keyIs_int i t) hd dd.mapOf ?_
  rw [kd_some g1 g2]
  exact ⟨.bl _, H, I.tok _, rfl, q⟩
theorem em_kdC {e : Expr} {me : M D} {op : CmpOp} {neg : Bool} (ho : ∀ X, F.Xs X → OpR X (compareOp op) (rKdIn F.G.K kvs neg)) (K : KdI F.G x kvs) (hg : F.kd.lookup x = some .globalImplicit) (he : EM F e Γ me) (hm : behindInMarks op (.Name x p) = false) :
    EM F (.Compare e [op] [.Name x p] pos) Γ (b1 (kdIn kvs neg) me) := by
  obtain ⟨a, hma, hk⟩ := K.ex
  obtain ⟨t, pt, f⟩ := he
  refine ⟨tOp (rKdIn F.G.K kvs neg) t (tC (.ref a)), fun X hX => ?_, fun H0 σ S H Q hh po => ?_⟩
  · obtain ⟨h1, h2, h3, h4, h5, h6⟩ := F.hX X hX
    exact pe_cmpR (ho X hX) (pt X hX) (pe_glob (F.gl X hX hg) (by rw [h4]; exact hma) rfl K.db) hm
  · refine f H0 σ S H _ hh ((Po.bind po).imp fun y S1 H1 g1 k1 v r => ?_)
    cases y with
    | int i =>
      cases r
      exact ⟨a, i, rfl, rfl, hk, Po.ok (a := D.bl _) g1.sub k1 _ (.bl _)⟩
    | _ => exact False.elim k1
theorem tm_kdC {e : Expr} {me : M D} {op : CmpOp} {neg : Bool} (ho : ∀ X, F.Xs X → OpR X (compareOp op) (rKdIn F.G.K kvs neg)) (K : KdI F.G x kvs) (hg : F.kd.lookup x = some .globalImplicit) (he : EM F e Γ me) (hm : behindInMarks op (.Name x p) = false) :
    TM F (.Compare e [op] [.Name x p] pos) Γ (b1 isB (b1 (kdIn kvs neg) me)) := by
  obtain ⟨a, hma, hk⟩ := K.ex
  obtain ⟨t, pt, f⟩ := he
  refine ⟨tTest (tOp (rKdIn F.G.K kvs neg) t (tC (.ref a))), fun X hX => ?_, fun H0 σ S H Q hh po => ?_⟩
  · obtain ⟨h1, h2, h3, h4, h5, h6⟩ := F.hX X hX
    exact pt_cmpR (ho X hX) (pt X hX) (pe_glob (F.gl X hX hg) (by rw [h4]; exact hma) rfl K.db) hm
  · refine f H0 σ S H _ hh ((Po.bind (Po.bind po)).imp fun y S1 H1 g1 k1 v r => ?_)
    cases y with
    | int i =>
      cases r
      have k2 : Po F.G (WE F.W σ) S1 H1 (KT Q) (.ok (if neg then !(kvs.lookup i).isSome else (kvs.lookup i).isSome)) := Po.ok (a := D.bl (if neg then !(kvs.lookup i).isSome else (kvs.lookup i).isSome)) g1.sub k1
      exact ⟨a, i, rfl, rfl, hk, _, rfl, k2.ok g1.sub⟩
    | _ => exact False.elim k1
theorem ok_kdi {kvs : List (Int × Int)} (X : Cx) (hX : F.Xs X) : OpR X (compareOp .In) (rKdIn F.G.K kvs false) := by
  have h := op_kdIn (X := X) (kvs := kvs)
  rw [F.hK X hX] at h
  exact h
theorem ok_kdn {kvs : List (Int × Int)} (X : Cx) (hX : F.Xs X) : OpR X (compareOp .NotIn) (rKdIn F.G.K kvs true) := by
  have h := op_kdNi (X := X) (kvs := kvs)
  rw [F.hK X hX] at h
  exact h
end
end Mir
namespace Mir
open PySem PySem.Spec L2
open PyProof.Rows (envOfC)

/-! ### a dict while it is read -/
def swp (T : Hp) (p : Addr) (o : HO) : Hp := fun a => if a = p then (match T p with | none => none | some _ => some o) else T a
theorem swp_ne {T : Hp} {p a : Addr} {o : HO} (h : a ≠ p) : swp T p o a = T a := by unfold swp; rw [if_neg h]
theorem swp_at {T : Hp} {p : Addr} {o u : HO} (h : T p = some u) : swp T p o p = some o := by unfold swp; rw [if_pos rfl, h]
theorem swp_non {T : Hp} {p a : Addr} {o : HO} (h : T a = none) : swp T p o a = none := by
  unfold swp
  split
  · rename_i e; subst e; rw [h]
  · exact h
theorem swp_upd {T : Hp} {p : Addr} {o u : HO} (h : T p = some u) : swp T p o = upd T p o := by
  funext a
  by_cases z : a = p
  · subst z; rw [swp_at h, upd_same]
  · rw [swp_ne z, upd_ne z]
def isDic : HO → Bool
  | .dT _ => true
  | .dK _ => true
  | _ => false
/-- what stands at p is the dict u, read or not -/
def DicAt (S : Hp) (p : Addr) (u : HO) : Prop := S p = some u ∨ ∃ od, S p = some (.frz od u)
theorem DicAt.swp {S : Hp} {p : Addr} {u o : HO} (h : DicAt S p u) (ho : o = u ∨ ∃ od, o = .frz od u) : DicAt (swp S p o) p u := by
  have e : Mir.swp S p o p = some o := by rcases h with h | ⟨od, h⟩ <;> exact swp_at h
  rcases ho with rfl | ⟨od, rfl⟩
  · exact .inl e
  · exact .inr ⟨od, e⟩
theorem rd_swp {S : Hp} {p q : Addr} {u o x : HO} (hu : isDic u = true) (h : DicAt S p u) (ho : o = u ∨ ∃ od, o = .frz od u) (hx : ∀ od y, x ≠ .frz od y) (r : Rd S q x) : Rd (swp S p o) q x := by
  by_cases z : q = p
  · subst z
    have ex : x = u := by
      rcases r with r | ⟨ob, r⟩
      · rcases h with h | ⟨od, h⟩
        · rw [h] at r; cases r; rfl
        · rw [h] at r; cases r; exact absurd rfl (hx _ _)
      · rcases h with h | ⟨od, h⟩
        · rw [h] at r; cases r; cases hu
        · rw [h] at r; cases r; rfl
    subst ex
    exact (h.swp ho)
  · rcases r with r | ⟨ob, r⟩
    · exact .inl (by rw [swp_ne z]; exact r)
    · exact .inr ⟨ob, by rw [swp_ne z]; exact r⟩
/-- what is no dict and no dict that is read stands elsewhere -/
theorem off_dic {S : Hp} {p q : Addr} {u x : HO} (hu : isDic u = true) (h : DicAt S p u) (hx : isDic x = false) (hf : ∀ od y, x ≠ .frz od y) (e : S q = some x) : q ≠ p := fun z => by
  subst z
  rcases h with h | ⟨od, h⟩
  · rw [h] at e; cases e; rw [hu] at hx; cases hx
  · rw [h] at e; cases e; exact hf _ _ rfl
section
variable {G : GG} {S : Hp} {p : Addr} {u o : HO}
mutual
theorem Rep.swp (hu : isDic u = true) (h : DicAt S p u) (ho : o = u ∨ ∃ od, o = .frz od u) : ∀ {v : V} {d : D}, Rep G S v d → Rep G (Mir.swp S p o) v d
  | _, _, .non => .non
  | _, _, .bl b => .bl b
  | _, _, .int i => .int i
  | _, _, .str x => .str x
  | _, _, .tup e r => .tup (by rw [swp_ne (off_dic hu h rfl (fun _ _ z => by cases z) e)]; exact e) (Reps.swp hu h ho r)
  | _, _, .lst e r => .lst (by rw [swp_ne (off_dic hu h rfl (fun _ _ z => by cases z) e)]; exact e) (Reps.swp hu h ho r)
  | _, _, .scr e => .scr (e.elim (fun e => .inl (rd_swp hu h ho (fun _ _ z => by cases z) e)) .inr)
  | _, _, .dct e n r => .dct (rd_swp hu h ho (fun _ _ z => by cases z) e) n (Reps.swp hu h ho r)
  | _, _, .dks e n r => .dks (rd_swp hu h ho (fun _ _ z => by cases z) e) n (Reps.swp hu h ho r)
  | _, _, .obj e k n r => .obj (by rw [swp_ne (off_dic hu h rfl (fun _ _ z => by cases z) e)]; exact e) (by rw [swp_ne (off_dic hu h rfl (fun _ _ z => by cases z) k)]; exact k) n (Reps.swp hu h ho r)
  | _, _, .slf e k n r => .slf (by rw [swp_ne (off_dic hu h rfl (fun _ _ z => by cases z) e)]; exact e) (by rw [swp_ne (off_dic hu h rfl (fun _ _ z => by cases z) k)]; exact k) n (Reps.swp hu h ho r)
theorem Reps.swp (hu : isDic u = true) (h : DicAt S p u) (ho : o = u ∨ ∃ od, o = .frz od u) : ∀ {vs : List V} {ds : List D}, Reps G S vs ds → Reps G (Mir.swp S p o) vs ds
  | _, _, .nil => .nil
  | _, _, .cons e r => .cons (Rep.swp hu h ho e) (Reps.swp hu h ho r)
end
theorem ex_swp {S H : Hp} (e : Ex S H) : Ex (swp S p o) (swp H p o) := fun a x q => by
  by_cases z : a = p
  · subst z
    cases w : S a with
    | none => rw [swp_non w] at q; cases q
    | some y => rw [swp_at w] at q; rw [swp_at (e a y w)]; exact q
  · rw [swp_ne z] at q ⊢
    exact e a x q
theorem OwnAt.swp {H0 H : Hp} {q : Addr} {d : D} (hu : isDic u = true) (h : DicAt S p u) (hH : DicAt H p u) (ho : o = u ∨ ∃ od, o = .frz od u) (hq : q ≠ p) (w : OwnAt G H0 S H q d) : OwnAt G (Mir.swp H0 p o) (Mir.swp S p o) (Mir.swp H p o) q d := by
  have ne : ∀ {a : Addr}, H a = some (.own q) → a ≠ p := fun {a} e => off_dic hu hH rfl (fun _ _ z => by cases z) e
  cases d with
  | lst ds => obtain ⟨vs, e, r⟩ := w; exact ⟨vs, by rw [swp_ne hq]; exact e, r.swp hu h ho⟩
  | dct ds => obtain ⟨vs, e, n, r⟩ := w; exact ⟨vs, by rw [swp_ne hq]; exact e, n, r.swp hu h ho⟩
  | dks ds => obtain ⟨vs, e, n, r⟩ := w; exact ⟨vs, by rw [swp_ne hq]; exact e, n, r.swp hu h ho⟩
  | obj c fs => obtain ⟨dx, vs, e, e2, e3, e4, n, r⟩ := w; exact ⟨dx, vs, by rw [swp_ne hq]; exact e, by rw [swp_ne (ne e2)]; exact e2, swp_non e3, swp_non e4, n, r.swp hu h ho⟩
  | slf a c fs => obtain ⟨hp, dx, vs, e, e2, e3, e4, n, r⟩ := w; exact ⟨hp, dx, vs, by rw [swp_ne hq]; exact e, by rw [swp_ne (ne e2)]; exact e2, swp_non e3, swp_non e4, n, r.swp hu h ho⟩
  | _ => exact False.elim w
theorem Holds.swp {H0 H : Hp} {σ : L2.St} {Γ : Gam} (hu : isDic u = true) (h : DicAt S p u) (ho : o = u ∨ ∃ od, o = .frz od u) (w : Holds G H0 σ S H Γ) : Holds G (Mir.swp H0 p o) σ (Mir.swp S p o) (Mir.swp H p o) Γ where
  ex := ex_swp w.ex
  e0 := ex_swp w.e0
  len := w.len
  val := fun i d e => let ⟨v, a, b⟩ := w.val i d e; ⟨v, a, b.swp hu h ho⟩
  own := fun i d e => by
    obtain ⟨q, a, b, c, oa⟩ := w.own i d e
    have hq : q ≠ p := fun z => by subst z; rcases h with h | ⟨od, h⟩ <;> (rw [h] at b; cases b)
    exact ⟨q, a, swp_non b, swp_non c, oa.swp hu h (h.imp (w.ex _ _) fun ⟨od, e⟩ => ⟨od, w.ex _ _ e⟩) ho hq⟩
  dis := w.dis
  ref := fun i a e => ⟨(w.ref i a e).1, fun dd fs z => let ⟨vs, q, n, r⟩ := (w.ref i a e).2 dd fs z; ⟨vs, by rw [swp_ne (off_dic hu h rfl (fun _ _ z => by cases z) q)]; exact q, n, r.swp hu h ho⟩⟩
/-- back from the locked heaps -/
theorem Grow.unswp {S0 H0 H S' H' : Hp} (hu : isDic u = true) (hS : S p = some u) (g : Grow S0 H0 S H) (ho : ∃ od, o = .frz od u) (g2 : Grow (Mir.swp S p o) (Mir.swp H0 p o) S' H') (e0 : Ex H0 H) : Grow S0 H0 (Mir.swp S' p u) (Mir.swp H' p u) := by
  have hH : H p = some u := g.sub _ _ hS
  have hS' : S' p = some o := g2.s _ _ (swp_at hS)
  have hH' : H' p = some o := g2.sub _ _ hS'
  refine ⟨fun a x e => ?_, fun a x e => ?_, ex_swp g2.sub, fun q h1 h2 => ?_⟩
  · have e1 := g.s a x e
    by_cases z : a = p
    · subst z; rw [hS] at e1; cases e1; exact swp_at hS'
    · rw [swp_ne z]; exact g2.s a x (by rw [swp_ne z]; exact e1)
  · have e1 := e0 a x e
    by_cases z : a = p
    · subst z; rw [hH] at e1; cases e1; exact swp_at hH'
    · rw [swp_ne z]; exact g2.h a x (by rw [swp_ne z]; exact e)
  · have q0 := g.sep q h1 h2
    have nq : q ≠ p := fun z => by subst z; rw [hS] at q0; cases q0
    rw [swp_ne nq]
    refine g2.sep q ?_ (by rw [swp_ne nq]; exact q0)
    obtain ⟨y, hy, hn⟩ := h1
    exact ⟨y, by rw [swp_ne nq]; exact hy, hn⟩
end

/-! ### the keys -/
def keyD : Key → D
  | .inl i => .int i
  | .inr x => .str x
theorem rep_keyD {G : GG} {S : Hp} (k : Key) : Rep G S (kV k) (keyD k) := by
  cases k with
  | inl i => exact .int i
  | inr x => exact .str x
theorem reps_keyD {G : GG} {S : Hp} : ∀ ks : List Key, Reps G S (ks.map kV) (ks.map keyD)
  | [] => .nil
  | k :: ks => .cons (rep_keyD k) (reps_keyD ks)
def keysM : D → M (List D)
  | .dct kvs => .ok (kvs.map fun q => .tup (q.1.map keyD))
  | .dks kvs => .ok (kvs.map fun q => keyD q.1)
  | _ => .stk
theorem keys_at {α β : Type} {κ : Type} {f : κ → D} : ∀ {ks : List (κ × α)} {kvs : List (κ × β)} {i : Nat} {d : D}, ks.map (·.1) = kvs.map (·.1) → (kvs.map fun q => f q.1)[i]? = some d → i < ks.length ∧ ∀ k v, ks[i]? = some (k, v) → d = f k := fun {ks kvs i d} n h => by
  have hl : ks.length = kvs.length := by have := congrArg List.length n; simpa using this
  rw [List.getElem?_map] at h
  cases q : kvs[i]? with
  | none => rw [q] at h; cases h
  | some w =>
    rw [q] at h
    cases h
    refine ⟨by rw [hl]; exact (List.getElem?_eq_some_iff.mp q).1, fun k v hk => ?_⟩
    have h1 : (ks.map (·.1))[i]? = some k := by rw [List.getElem?_map, hk]; rfl
    have h2 : (kvs.map (·.1))[i]? = some w.1 := by rw [List.getElem?_map, q]; rfl
    rw [n, h2] at h1
    cases h1
    rfl
theorem sem_dT {G : GG} {S : Hp} {p : Addr} {od : Obj} {ks : List (List Key × V)} {kvs : List (List Key × D)} (h : S p = some (.frz od (.dT ks))) (n : ks.map (·.1) = kvs.map (·.1)) : ItSem G (Itkt p od ks) S (kvs.map fun q => .tup (q.1.map keyD)) := by
  intro S' H' e1 e2
  have hH := e2 _ _ (e1 _ _ h)
  have hl : ks.length = kvs.length := by have := congrArg List.length n; simpa using this
  refine ⟨⟨hH, by rw [List.length_map, hl]; exact Nat.le_refl _⟩, fun i d hd => ?_⟩
  obtain ⟨hi, hk⟩ := keys_at (f := fun k : List Key => D.tup (k.map keyD)) n hd
  refine ⟨⟨hH, hi⟩, fun x H'' hy => ?_⟩
  obtain ⟨rfl, k, v, q, hq, rfl, ht⟩ := hy
  rw [hk k v hq]
  refine ⟨upd S' q (.tup (k.map kV)), ⟨fun a y e => ?_, Same.refl _, fun a y e => ?_, fun a s1 s2 => ?_⟩, .tup upd_same (reps_keyD k)⟩
  · by_cases z : a = q
    · subst z; rw [upd_same]; exact (ht.symm.trans (e2 _ _ e))
    · rw [upd_ne z]; exact e
  · by_cases z : a = q
    · subst z; rw [upd_same] at e; rw [ht]; exact e
    · rw [upd_ne z] at e; exact e2 a y e
  · by_cases z : a = q
    · subst z
      obtain ⟨y, hy, hn⟩ := s1
      rw [ht] at hy
      cases hy
      exact absurd rfl (hn _)
    · rw [upd_ne z]; exact s2
theorem sem_dK {G : GG} {S : Hp} {p : Addr} {od : Obj} {ks : List (Key × V)} {kvs : List (Key × D)} (h : S p = some (.frz od (.dK ks))) (n : ks.map (·.1) = kvs.map (·.1)) : ItSem G (Itk p od ks) S (kvs.map fun q => keyD q.1) := by
  intro S' H' e1 e2
  have hH := e2 _ _ (e1 _ _ h)
  have hl : ks.length = kvs.length := by have := congrArg List.length n; simpa using this
  refine ⟨⟨hH, by rw [List.length_map, hl]; exact Nat.le_refl _⟩, fun i d hd => ?_⟩
  obtain ⟨hi, hk⟩ := keys_at (f := keyD) n hd
  refine ⟨⟨hH, hi⟩, fun x H'' hy => ?_⟩
  obtain ⟨rfl, k, v, hq, rfl⟩ := hy
  rw [hk k v hq]
  exact ⟨S', Grow.refl e2, rep_keyD k⟩

/-! ### for over the keys -/
def Ctl.noX {X Y S : Type} : Ctl X S → Ctl Y S
  | .stk => .stk
  | .exn _ _ => .stk
  | .ret d => .ret d
  | .nx s => .nx s
section
variable {F : Fm} {Γ : Gam} {X Y S J : Type} {fx : X → Gam} {fy : Y → Gam} {fs : S → Gam} {fj : J → Gam} {x0 : X} {pos : Pos} {rest body : List Stmt}
theorem swp_none {T : Hp} {p a : Addr} {o : HO} (h : swp T p o a = none) : T a = none := by
  unfold swp at h
  by_cases e : a = p
  · subst e
    rw [if_pos rfl] at h
    cases q : T a with
    | none => rfl
    | some _ => rw [q] at h; cases h
  · rw [if_neg e] at h; exact h
theorem for_core {f : D → J → Ctl Y J} {tf : D → Gam → Option Gam} {g : TG} {S0 H0 : Hp} {Dn : Ends} {σ : L2.St} {S1 H1 : Hp} {It : It} {ds : List D} {j0 : J} (eg : ∀ H0 σ S H v d Γ Γ' (Q : L2.St → Hp → Prop), Holds F.G H0 σ S H Γ → Rep F.G S v d → tf d Γ = some Γ' → (∀ σ', Holds F.G H0 σ' S H Γ' → σ'.length = σ.length → (∀ i : Nat, F.L[i]? ≠ some true → σ'[i]? = σ[i]?) → Q σ' H) → g v σ H Q)
    (hb : ∀ d j, (∃ Γ', tf d (fj j) = some Γ' ∧ BM F body Γ' ((f d j).out fy fj)) ∨ f d j = .stk) (g1 : Grow S0 H0 S1 H1) (h1 : Holds F.G H0 σ S1 H1 (fj j0)) (hJ : ItSem F.G It S1 ds) (po : OPo F S0 H0 Dn ((forC f ds j0).out fy fj)) :
    ∃ W : Nat → Nat → L2.St → Hp → Prop, (∃ m, W 0 m σ H1) ∧ ∀ i m σ H, W i m σ H → (It.stop i H ∧ Dn.nx σ H) ∨ (It.go i H ∧ ∃ N : L2.St → Hp → Prop, (∀ σ' H', N σ' H' → ∃ m', m' < m ∧ W (i + 1) m' σ' H') ∧
      ∀ x H', It.yld i H x H' → g x σ H' fun σ2 H2 => cB F body { nx := N, rt := Dn.rt, bk := Dn.nx, ct := N } σ2 H2) := by
  refine ⟨fun i m σ2 H2 => m = ds.length - i ∧ i ≤ ds.length ∧ ∃ S2 j, Grow S0 H0 S2 H2 ∧ Ex S1 S2 ∧ Holds F.G H0 σ2 S2 H2 (fj j) ∧ OPo F S0 H0 Dn ((forC f (ds.drop i) j).out fy fj), ⟨ds.length, by simp, Nat.zero_le _, S1, j0, g1, Same.refl _, h1, po⟩, ?_⟩
  rintro i m σ2 H2 ⟨rfl, hi, S2, j, g2, e12, hh2, p2⟩
  obtain ⟨stop, go⟩ := hJ S2 H2 e12 g2.sub
  by_cases hlt : i < ds.length
  · obtain ⟨hgo, hy⟩ := go i ds[i] (List.getElem?_eq_getElem hlt)
    refine .inr ⟨hgo, fun σ3 H3 => ∃ S3 j, Grow S0 H0 S3 H3 ∧ Ex S1 S3 ∧ Holds F.G H0 σ3 S3 H3 (fj j) ∧ OPo F S0 H0 Dn ((forC f (ds.drop (i + 1)) j).out fy fj), fun σ' H' q => ⟨ds.length - (i + 1), by omega, rfl, hlt, q⟩, fun x H3 y => ?_⟩
    obtain ⟨S3, g3, r3⟩ := hy x H3 y
    rw [List.drop_eq_getElem_cons hlt] at p2
    have p2 : OPo F S0 H0 Dn (((f ds[i] j).bind (forC f (ds.drop (i + 1)))).out fy fj) := p2
    rcases hb ds[i] j with ⟨Γ', e', hbm⟩ | hstk
    · refine eg H0 σ2 S3 H3 x ds[i] (fj j) Γ' _ (hh2.grow g3) r3 e' fun σ3 hh3 _ _ => ?_
      have gg : Grow S0 H0 S3 H3 := g2.trans g3
      refine hbm.c S3 H0 _ σ3 S3 H3 gg.base hh3 ?_
      revert p2
      cases f ds[i] j with
      | stk => exact fun p2 => p2
      | exn e x => exact fun p2 => OPo.rebase (o := Out.exn e (fy x)) gg p2
      | ret d => exact fun p2 => OPo.rebase (o := Out.ret d) gg p2
      | nx s => exact fun p2 σ4 S4 H4 g4 hh4 => ⟨S4, s, gg.rebase g4, (e12.trans g3.s).trans g4.s, hh4, p2⟩
    · rw [hstk] at p2
      exact False.elim p2
  · have e : i = ds.length := by omega
    subst e
    rw [List.drop_length] at p2
    exact .inl ⟨stop, p2 σ2 S2 H2 g2 hh2⟩
theorem bm_forD {n : Str} {p : Pos} {d : D} {j0 : J} {f : D → J → Ctl Y J} {tf : D → Gam → Option Gam} {tg : Expr} {k : J → Ctl X S} (i : Nat) (hn : F.N[i]? = some n) (hv : F.V[i]? = some true) (hΓ : Γ[i]? = some (Sl.val d)) (w : Weak Γ (fx x0)) (wj : Weak Γ (fj j0)) (ht : TgM F tg tf)
    (hb : ∀ d j, (∃ Γ', tf d (fj j) = some Γ' ∧ BM F body Γ' ((f d j).out fy fj)) ∨ f d j = .stk) (hr : ∀ j, BM F rest (fj j) ((k j).out fx fs)) (hcm : F.cm = true)
    (hd : (n == ("__debug__" : Str)) = false := by decide) (hcd : (n == ("__classdict__" : Str)) = false := by decide) :
    BM F (.For tg (.Name n p) body [] pos :: rest) Γ (((keysM d).bindC x0 fun ds => ((forC f ds j0).noX).bind k).out fx fs) := by
  obtain ⟨g, pg, eg⟩ := ht
  refine bm_cons (t := fun D σ H => tLock (tFor (iKeys (tVar i)) g (cB F body)) D σ H ∨ tFor (iKeys (tVar i)) g (cB F body) D σ H) (fun Z hZ => ?_) fun S0 H0 Dn σ S H gr hh po => ?_
  · have hp := ps_for (pos := pos) (F.po Z hZ) (F.hc hcm Z hZ) (pi_keys (tg := tg) (pe_var (i := i) (pos := p) (by rw [F.hN Z hZ]; exact hn) (F.vis Z hZ i n hv hn) hd hcd)) (pg Z hZ) (cB_ok (F := F) (sts := body) Z hZ) (by intro _; rfl)
    exact PS_or (ps_lock hp) hp
  · obtain ⟨v, hσ, rv⟩ := hh.val i d hΓ
    have h1 := hh.weak wj
    -- the result without exceptions
    have fin : ∀ ds, OPo F S0 H0 Dn ((((forC f ds j0).noX : Ctl X J).bind k).out fx fs) → OPo F S0 H0 { Dn with nx := cB F rest Dn } ((forC f ds j0).out fy fj) ∧ (∀ e y, forC f ds j0 ≠ .exn e y) := by
      intro ds q
      revert q
      cases forC f ds j0 with
      | stk => exact fun q => False.elim q
      | exn e x => exact fun q => False.elim q
      | ret d => exact fun q => ⟨q, fun e y z => by cases z⟩
      | nx s => exact fun q => ⟨fun σ S H g hh => (hr s).c S0 H0 Dn σ S H g hh q, fun e y z => by cases z⟩
    -- the dict is read already
    have plain : ∀ (S0 H0 : Hp) (Dn' : Ends) (S H : Hp) (It : It) (ds : List D), Grow S0 H0 S H → Holds F.G H0 σ S H (fj j0) → ItSem F.G It S ds → OPo F S0 H0 Dn' ((forC f ds j0).out fy fj) → (∀ R, R It H → iKeys (tVar i) σ H R) → tFor (iKeys (tVar i)) g (cB F body) Dn' σ H := by
      intro S0 H0 Dn' S H It ds g1 h1 hJ q hR
      exact hR _ (for_core eg hb g1 h1 hJ q)
    have both : ∀ {ks : HO} {p : Addr} {ds : List D} (hu : isDic ks = true) (mu : Mut (some ks)), v = .ref p → Rd S p ks → (∀ S od, S p = some (.frz od ks) → ∃ It, ItSem F.G It S ds ∧ ∀ H R, H p = some (.frz od ks) → R It H → iKeys (tVar i) σ H R) → OPo F S0 H0 Dn ((((forC f ds j0).noX : Ctl X J).bind k).out fx fs) →
        tLock (tFor (iKeys (tVar i)) g (cB F body)) { Dn with nx := cB F rest Dn } σ H ∨ tFor (iKeys (tVar i)) g (cB F body) { Dn with nx := cB F rest Dn } σ H := by
      intro ks p ds hu mu ev rd hIt q
      subst ev
      obtain ⟨q, nox⟩ := fin ds q
      rcases rd with rd | ⟨od, rd⟩
      · refine .inl ⟨p, ks, hh.ex _ _ rd, mu, fun od => ?_⟩
        have ho : HO.frz od ks = ks ∨ ∃ od', HO.frz od ks = .frz od' ks := .inr ⟨od, rfl⟩
        have hl := h1.swp (o := .frz od ks) hu (.inl rd) ho
        rw [← swp_upd (hh.ex _ _ rd)]
        obtain ⟨It, hI, hR⟩ := hIt (Mir.swp S p (.frz od ks)) od (swp_at rd)
        refine plain (Mir.swp S p (.frz od ks)) (Mir.swp H0 p (.frz od ks)) _ _ _ It ds ⟨Same.refl _, hl.e0, hl.ex, fun _ _ z => z⟩ hl hI ?_ (fun R => hR _ R (swp_at (hh.ex _ _ rd)))
        have key : ∀ S' H', Grow (Mir.swp S p (.frz od ks)) (Mir.swp H0 p (.frz od ks)) S' H' → H' p = some (.frz od ks) ∧ S' p = some (.frz od ks) ∧ Grow S0 H0 (Mir.swp S' p ks) (Mir.swp H' p ks) := fun S' H' g' => by
          have a1 := g'.s _ _ (swp_at rd)
          exact ⟨g'.sub _ _ a1, a1, gr.unswp hu rd ⟨od, rfl⟩ g' hh.e0⟩
        revert q nox
        cases forC f ds j0 with
        | stk => exact fun q _ => False.elim q
        | exn e x => exact fun _ nox => absurd rfl (nox e x)
        | ret d =>
          intro q _ v' S' H' g' r' nw
          obtain ⟨a1, a2, a3⟩ := key S' H' g'
          refine ⟨a1, ?_⟩
          have := q v' _ _ a3 (r'.swp hu (.inr ⟨od, a2⟩) (.inl rfl)) fun z => (by obtain ⟨b, eb, hb'⟩ := nw z; exact ⟨b, eb, swp_none hb'⟩)
          rw [swp_upd a1] at this
          exact this
        | nx s =>
          intro q _ σ' S' H' g' h'
          obtain ⟨a1, a2, a3⟩ := key S' H' g'
          refine ⟨a1, ?_⟩
          have h2 := h'.swp (o := ks) hu (.inr ⟨od, a2⟩) (.inl rfl)
          have e0 : Mir.swp (Mir.swp H0 p (.frz od ks)) p ks = H0 := by
            funext a
            by_cases z : a = p
            · subst z
              cases w : H0 a with
              | none => rw [swp_non (swp_non w)]
              | some y =>
                rw [swp_at (swp_at w)]
                have := hh.e0 _ _ w
                rw [hh.ex _ _ rd] at this
                exact this
            · rw [swp_ne z, swp_ne z]
          rw [e0] at h2
          have := q σ' _ _ a3 h2
          rw [swp_upd a1] at this
          exact this
      · obtain ⟨It, hI, hR⟩ := hIt S od rd
        exact .inr (plain S0 H0 _ S H It ds gr h1 hI q (fun R => hR _ R (hh.ex _ _ rd)))
    show tLock (tFor (iKeys (tVar i)) g (cB F body)) { Dn with nx := cB F rest Dn } σ H ∨ tFor (iKeys (tVar i)) g (cB F body) { Dn with nx := cB F rest Dn } σ H
    cases rv with
    | @dct p ks kvs rd n r => exact both (ks := .dT ks) rfl True.intro rfl rd (fun S od e => ⟨_, sem_dT e n, fun H R e2 q => ⟨_, hσ, p, od, rfl, .inr ⟨ks, e2, q⟩⟩⟩) po
    | @dks p ks kvs rd n r => exact both (ks := .dK ks) rfl True.intro rfl rd (fun S od e => ⟨_, sem_dK e n, fun H R e2 q => ⟨_, hσ, p, od, rfl, .inl ⟨ks, e2, q⟩⟩⟩) po
    | _ => exact False.elim po
end
end Mir
namespace Mir
open PySem PySem.Spec L2
open PyProof.Rows (envOfC)

def arF1 (c : D → Ctl Unit FsD) : List D → M FsD
  | [a] => (c a).toF
  | _ => .stk
def arF2 (c : D → D → Ctl Unit FsD) : List D → M FsD
  | [a, b] => (c a b).toF
  | _ => .stk
def arF3 (c : D → D → D → Ctl Unit FsD) : List D → M FsD
  | [a, b, d] => (c a b d).toF
  | _ => .stk
theorem arF1_len {c : D → Ctl Unit FsD} (ds : List D) (h : arF1 c ds ≠ .stk) : ds.length = 1 := by
  unfold arF1 at h
  split at h
  · rfl
  · exact absurd rfl h
theorem arF2_len {c : D → D → Ctl Unit FsD} (ds : List D) (h : arF2 c ds ≠ .stk) : ds.length = 2 := by
  unfold arF2 at h
  split at h
  · rfl
  · exact absurd rfl h
theorem arF3_len {c : D → D → D → Ctl Unit FsD} (ds : List D) (h : arF3 c ds ≠ .stk) : ds.length = 3 := by
  unfold arF3 at h
  split at h
  · rfl
  · exact absurd rfl h
theorem em_stk {F : Fm} {e : Expr} {Γ : Gam} : EM F e Γ .stk := ⟨fun _ _ _ => False, fun X _ => ⟨fun _ _ _ _ _ _ h => False.elim h⟩, fun _ _ _ _ _ _ p => p⟩
def isEx (tab : List Bool) (e : Exc) : M D := if e.c < 6 then isE tab e.c else .stk
theorem em_isEx {F : Fm} {Γ : Gam} {a : Addr} {dd : Option Addr} {e : Exc} {x n : Str} {tab : List Bool} {p p1 p2 pos : Pos} (i : Nat) (K : XcN F.G x tab) (C : ∀ c, c < 6 → XcI F.G c) (hdd : (e.fs = [] ∧ dd = none) ∨ (e.fs ≠ [] ∧ ∃ d, dd = some d)) (hd : (n == ("__debug__" : Str)) = false) (hn : F.N[i]? = some n) (hv : F.V[i]? = some true) (hΓ : Γ[i]? = some (Sl.ref (refK a dd e))) (hgi : F.kd.lookup ("isinstance" : Str) = some .globalImplicit) (hmi : F.G.mg "isinstance" = none) (hg : F.kd.lookup x = some .globalImplicit)
    (hcd : (n == ("__classdict__" : Str)) = false := by decide) :
    EM (suiteF F a (F.G.xc e.c) dd) (.Call (.Name "isinstance" p) [.Name n p1, .Name x p2] [] pos) Γ (isEx tab e) := by
  unfold isEx
  split
  · rename_i h
    exact em_isE i K (C e.c h) hn hv hΓ (fun d z => ⟨e.fs, by subst z; rfl⟩) hgi hmi hg hd hcd
  · exact em_stk
end Mir
namespace Mir
open PySem PySem.Spec L2
open PyProof.Rows (envOfC)

/-! ### list(o), o's class gives iter(o.f), o.f a text -/
def SitP (it : Addr) (x : Str) (h : Heap) : Prop := ∃ ty t, (ty = "str_ascii_iterator" ∨ ty = "str_iterator") ∧ h.IsStrIter it ty x t 0
def SitO (it : Addr) (x : Str) : HO := .ext (SitP it x)
def rIterS : List V → Hp → VK → Prop := fun xs H Q => ∃ x, xs = [.str x] ∧ ∀ it, H it = none → (∀ b u, H b = some u → b < it) → Q (.ref it) (upd H it (SitO it x))
theorem sit_ok {P : Program} {w : World} {H : Hp} {h : Heap} {it : Addr} {x : Str} (e : SitP it x h) : ObjOk P w H h it (SitO it x) := by
  obtain ⟨ty, t, hty, o, ho, r⟩ := e
  exact ⟨⟨ty, t, hty, o, ho, r⟩, ⟨o, ho⟩, fun h1 h2 q k => by
    obtain ⟨ty, t, hty, o, ho, r⟩ := q
    exact ⟨ty, t, hty, o, k _ ho, r⟩⟩
theorem call_iterS {X : Cx} : CallR X (.builtin "iter") rIterS := by
  intro pins s σ H xs us Q I r h
  obtain ⟨x, rfl, q⟩ := h
  obtain ⟨u, rfl, ru⟩ := vals1 r
  obtain ⟨t, rfl⟩ := ru
  refine Calls.call_function_entry (by decide +kernel) (by decide +kernel) PySem.W.kdk_entry_iter (PySem.W.kdk_args_iter _) ?_
  unfold Builtin.«iter»
  refine wpAny_bind (m := someArgs "iter" 1 2 _) (wpAny_of_eq (a := [Value.str x t]) (by first | rfl | kernel_rfl!) ?_)
  show wpAny _ _ (pyIter (.str x t) >>= _) _ _ _
  have fin : ∀ (ty : String) (o : Obj), (ty = "str_ascii_iterator" ∨ ty = "str_iterator") → o = { cls := .type ty, data := .fields #[.str x t, .int 0 0] } → EP X pins σ Q (.ref s.heap.objs.size) { s with heap := s.heap.push o } := fun ty o hty ho => by
    subst ho
    exact ⟨.ref s.heap.objs.size, _, I.laid (t' := s.toks) (fun b u e => Heap.get?_push_of_some _ e) (Nat.le_refl _) (sit_ok (x := x) ⟨ty, t, hty, _, Heap.get?_push_size _ rfl, rfl, rfl⟩), rfl, q _ (I.hok.fresh (Nat.le_refl _)) fun b u e => let ⟨_, z⟩ := objOk_get (I.hok b u e); Heap.lt_size z⟩
  cases ha : x.cps.all (· < 128)
  · exact wpAny_bind (wpAny_pyIter_wide ha (wpAny_pure ⟨_, rfl, fin "str_iterator" _ (.inr rfl) rfl⟩))
  · exact wpAny_bind (wpAny_pyIter_ascii ha (wpAny_pure ⟨_, rfl, fin "str_ascii_iterator" _ (.inl rfl) rfl⟩))

/-- what __iter__ gives: a new iterator of the field f -/
def spIt (G : GG) (c : Nat) (f : Str) : Sp := fun vs H Q _ => ∃ a dx fs x, vs = [.ref a] ∧ H a = some (.ins (G.ca c) dx fs) ∧ fs.lookup f = some (.str x) ∧ ∀ it, H it = none → (∀ b u, H b = some u → b < it) → Q (.ref it) (upd H it (SitO it x))
theorem iter_ok {G : GG} {c : Nat} {f : Str} {name qual : Str} {st : Stmt} {fa : Addr} {fd : FuncData} {p1 p2 p3 p4 p5 : Pos} {k : Nat} (Fn : Fun G.K name qual st fa fd) (Sc : FnScope ["self"] ["self"] (defScope st)) (hbody : defBody st = [.Return (some (.Call (.Name "iter" p2) [.Attribute (.Name "self" p1) f p5] [] p3)) p4]) (K : Fld G c f)
    (hg : (defScope st).names.lookup ("iter" : Str) = some .globalImplicit) (hs : (defScope st).names.lookup ("self" : Str) = some .local) (hm : G.mg "iter" = none) :
    FnOk G.P G.w G.K G.mg G.base (L2.CX G.P G.w) (k + 1) fa fd ["self"] (spIt G c f) := by
  refine Fun.okX Fn Sc (fun vs H Q E h => ?_) (fun cdv A outer s H vs Q E hr h => ?_)
  · obtain ⟨a, dx, fs, x, rfl, _⟩ := h
    rfl
  · obtain ⟨a, dx, fs, x, rfl, ha, hf, q⟩ := h
    rw [hbody]
    refine ⟨_, pss_one (ps_ret (pe_callB call_iterS hg hm rfl (pa_cons (pe_fld (pe_var (i := 0) rfl (.inl hs)) rfl) pa_nil) (by decide) (by decide) (by rfl) (by rfl))), ?_⟩
    exact ⟨.ref a, rfl, a, _, dx, fs, .str x, rfl, ha, K.cl, K.no, hf, x, rfl, fun it hit hb => q it hit hb⟩
def chrs (x : Str) : List V := x.cps.toList.map fun c => V.str ⟨#[c]⟩
structure ItS (K : PySem.W.Frag) (C fi : Addr) : Prop where
  it : PySem.W.findIn K (.ref C) "__iter__" = some (some (.ref fi))
  itF : PySem.W.isFn K (.ref fi) = true
  nolen : PySem.W.findIn K (.ref C) "__len__" = some none
  nohint : PySem.W.findIn K (.ref C) "__length_hint__" = some none
section
variable {X : Cx} {pins : List (Addr × Obj)} {σ : L2.St} {H : Hp} {s : Shared} {G : GG} {c n : Nat} {f : Str} {fi a q it : Addr} {fdI : FuncData} {psI : List Str}
theorem walks_sit {P : Program} {w : World} {A : Around} (hh : A.handled = none) {x : Str} {t : Tok} {ty : String} (hty : ty = "str_ascii_iterator" ∨ ty = "str_iterator") : Walks P w A it [it] [it] x.cps.size (SignAt x) (fun i h => h.IsStrIter it ty x t i) := by
  rcases hty with rfl | rfl
  · exact Walks.strAscii hh it x t
  · exact Walks.strWide hh it x t
theorem chrs_get {x : Str} {i : Nat} {c : Nat} (h : x.cps[i]? = some c) : (chrs x)[i]? = some (V.str ⟨#[c]⟩) := by
  unfold chrs
  rw [List.getElem?_map, Array.getElem?_toList, h]
  rfl
theorem sit_loop {A1 : Around} {Rs : Result → Shared → Prop} {x : Str} {t : Tok} {ty : String} (hty : ty = "str_ascii_iterator" ∨ ty = "str_iterator") (hh : A1.in1.handled = none) (hz : x.cps.size ≤ sizeLine) (hqi : q ≠ it) (hn : X.s_0.heap.objs.size ≤ it)
    (hdone : ∀ H' s', Inv X pins σ H' s' → H' = upd H q (.lst (chrs x)) → Rs (.ok (.ret .none)) s') (hH : H it = none) (hHq : H q = none) :
    ∀ (m i : Nat) (s : Shared), m = x.cps.size - i → i ≤ x.cps.size → Inv X pins σ (upd H q (.lst ((chrs x).take i))) s → FpOk X pins (upd H q (.lst ((chrs x).take i))) it → s.heap.IsStrIter it ty x t i →
      codeAny (model X.prog X.w) A1 (.builtin "list.extend.loop" ⟨[.ref q, .ref it, .none], []⟩) Rs s := by
  intro m
  induction m with
  | zero =>
    intro i s hm hi I hf st
    have hin : i = x.cps.size := by omega
    subst hin
    refine codeAny_builtin PySem.F.entry_extend_loop ?_
    rw [Around.under_plainId PySem.F.plain_extend_loop _]
    show wpAny _ A1.in1 (pyNext (.ref it) >>= _) _ _ s
    refine wpAny_bind ((walks_sit hh hty).done s _ _ st fun h' tk kk => wpAny_pure (hdone _ _ (I.turned (t' := tk) (fun b ob hb e => kk b ob (by simpa using hb) e) hf.1 hf.2.1 hf.2.2.2.1 hf.2.2.2.2.1 hf.2.2.2.2.2) ?_))
    rw [List.take_of_length_le (by unfold chrs; simp)]
  | succ m ih =>
    intro i s hm hi I hf st
    have hlt : i < x.cps.size := by omega
    refine codeAny_builtin PySem.F.entry_extend_loop ?_
    rw [Around.under_plainId PySem.F.plain_extend_loop _]
    show wpAny _ A1.in1 (pyNext (.ref it) >>= _) _ _ s
    refine wpAny_bind ((walks_sit hh hty).item i s _ _ hlt st fun v h' tk hv st' kk => ?_)
    obtain ⟨ch, u, hc, rfl⟩ := hv
    have I' := I.turned (h' := h') (t' := tk) (fun b ob hb e => kk b ob (by simpa using hb) e) hf.1 hf.2.1 hf.2.2.2.1 hf.2.2.2.2.1 hf.2.2.2.2.2
    show wpAny _ A1.in1 (updateSeq q (·.push (Value.str ⟨#[ch]⟩ u)) >>= _) _ _ _
    obtain ⟨z, its, k, r2, hl, e⟩ := I'.lstM upd_same
    have hlen : its.length = i := by
      have := r2.length
      rw [List.length_take] at this
      have h2 : (chrs x).length = x.cps.size := by unfold chrs; simp
      omega
    refine wpAny_bind (wpAny_updateSeq e rfl (wpAny_pure ⟨plainId_quiet PySem.F.plain_extend_loop _, ?_⟩) (by rw [List.size_toArray]; omega) (by show (its.toArray.push _).size ≤ sizeLine + 1; rw [Array.size_push, List.size_toArray]; omega))
    have I2 := I'.lset (f := (·.push (Value.str ⟨#[ch]⟩ u))) (its' := its ++ [Value.str ⟨#[ch]⟩ u]) (ys := (chrs x).take i ++ [V.str ⟨#[ch]⟩]) (t' := tk) upd_same e (by simp) (r2.append (.cons ⟨u, rfl⟩ .nil)) (by rw [List.length_append, List.length_singleton]; omega)
    rw [upd_upd] at I2
    have et : (chrs x).take i ++ [V.str ⟨#[ch]⟩] = (chrs x).take (i + 1) := by rw [List.take_add_one, chrs_get hc]; rfl
    rw [et] at I2
    refine ih (i + 1) _ (by omega) hlt I2 ?_ ?_
    · exact ⟨by rw [upd_ne (Ne.symm hqi)]; exact hH, hf.2⟩
    · exact (walks_sit (P := X.prog) (w := X.w) hh hty).frame _ _ _ st' fun b hb o e' => (Heap.get?_update_other _ _ (fun z : q = b => hqi (by rw [z]; simpa using hb))).trans e'
theorem call_listIt (hc : ItS X.K (G.ca c) fi) (FI : FnOk X.prog X.w X.K X.mg X.base (L2.CX X.prog X.w) n fi fdI psI (spIt G c f)) (bI : Binds X.K fdI psI []) (xI : Passes (L2.CX X.prog X.w) X (fun _ _ _ => False)) (hcm : X.calm = true) (hr : Room (n + 2) X.A) :
    CallR X (.type "list") (fun xs H Q => ∃ a dx fs x, xs = [.ref a] ∧ H a = some (.ins (G.ca c) dx fs) ∧ fs.lookup f = some (.str x) ∧ x.cps.size ≤ sizeLine ∧ ∀ q, H q = none → Q (.ref q) (upd H q (.lst (chrs x)))) := by
  intro pins s σ H xs us Q I rv h
  obtain ⟨a, dx, fs, x, rfl, ha, hf, hz, hq⟩ := h
  obtain ⟨u, rfl, ru⟩ := rv.one
  cases ru
  have sb : Sub X n X.A.in1.in1 := (Sub.in1 (Sub.in1 (⟨hr, rfl⟩ : Sub X (n + 2) X.A)))
  refine callType_codes (Q₁ := fun obj s₁ => obj = .ref s.heap.objs.size ∧ s₁ = { s with heap := s.heap.push { cls := .type "list", data := .seq #[] } }) PySem.F.called_list (PySem.F.typeCall_list_1 _) PySem.F.entry_list_init
    (code_list_new _ ⟨rfl, rfl⟩) fun obj s₁ h₁ => ?_
  obtain ⟨rfl, rfl⟩ := h₁
  have hS : (s.heap.push { cls := .type "list", data := .seq #[] }).get? s.heap.objs.size = some { cls := .type "list", data := .seq #[] } := Heap.get?_push_size _ rfl
  refine ⟨⟨_, hS, rfl⟩, PySem.F.args_list_init_2 _ _, ?_⟩
  have fr : H s.heap.objs.size = none := I.hok.fresh (Nat.le_refl _)
  have hQ := hq _ fr
  have hsz : X.s_0.heap.objs.size ≤ s.heap.objs.size := I.sz
  generalize hqq : s.heap.objs.size = q at *
  have I1 : Inv X pins σ (upd H q (.lst [])) { s with heap := s.heap.push { cls := .type "list", data := .seq #[] } } := by
    have := I.lnew (its := []) (t' := s.toks) .nil (Nat.zero_le _)
    rw [hqq] at this
    exact this
  show wpAny _ _ (do let old ← Builtin.List.listItems (.ref q); Builtin.List.listUpdate (.ref q) (fun _ => #[]); letGo old.toList.reverse; Builtin.List.listExtendWith (.ref q) (.ref a) .none) _ _ _
  refine wpAny_bind ?_
  unfold Builtin.List.listItems
  refine wpAny_bind (wpAny_seqItems hS rfl (wpAny_pure ?_))
  show wpAny _ _ (updateSeq q (fun _ => #[]) >>= fun _ => letGo (#[] : Array Value).toList.reverse >>= fun _ => Builtin.List.listExtendWith (.ref q) (.ref a) .none) _ _ _
  refine wpAny_bind (wpAny_updateSeq hS rfl ?_)
  have I2 := I1.lset (f := fun _ => #[]) (its := []) (its' := []) (ys := []) (t' := s.toks) upd_same hS rfl .nil (Nat.zero_le _)
  rw [upd_upd] at I2
  refine wpAny_bind (wpAny_letGo ?_)
  have ha2 : upd H q (.lst []) a = some (.ins (G.ca c) dx fs) := by rw [upd_ne (ne_of_none ha fr)]; exact ha
  have hne : q ≠ a := fun z => by rw [z] at fr; rw [ha] at fr; cases fr
  -- the list is filled
  generalize hs2 : ({ s with heap := _ } : Shared) = s2 at I2 ⊢
  obtain ⟨mA, J, _⟩ := ins_get I2.hok ha2
  obtain ⟨od, J, _⟩ := J.look
  obtain ⟨m0, hF⟩ := I2.fr
  unfold Builtin.List.listExtendWith
  refine wpAny_bind (J.type.here ?_)
  have h1 : Builtin.List.listSameRef (.ref q) (.ref a) = false := by simp [Builtin.List.listSameRef, hne]
  have h2 : (Value.ref (G.ca c) == Value.type "list") = false := rfl
  have h3 : (Value.ref (G.ca c) == Value.type "tuple") = false := rfl
  simp only [h1, h2, h3, Bool.or_false, Bool.false_eq_true, if_false]
  refine wpAny_bind (PySem.W.owit_iter hF I2.ok.mod.kin J hc.it hc.itF ?_)
  have e0 : Env0 X.prog X.w X.K X.mg X.base X.A.in1.in1 X.stack s2 (upd H q (.lst [])) := by
    have e := I2.env0
    exact ⟨by rw [sb.fr]; exact e.frames, e.mod, e.bs, e.bsz, e.funs, e.frf, e.hok, e.bare⟩
  have hspI : spIt G c f [.ref a] (upd H q (.lst [])) (fun v H' => ∃ it, v = .ref it ∧ upd H q (.lst []) it = none ∧ q < it ∧ H' = upd (upd H q (.lst [])) it (SitO it x)) (fun _ _ _ => False) := ⟨a, dx, fs, x, rfl, ha2, hf, fun it hit hb => ⟨it, rfl, hit, hb q _ upd_same, rfl⟩⟩
  have hl := FI.len _ _ _ _ hspI
  have r2 : Vals [V.ref a] [Value.ref a] := .cons rfl .nil
  refine wpAny_call (codeAny_mono (FI.run X.A.in1.in1 X.stack s2 _ ⟨[.ref a], []⟩ [.ref a] [.ref a] _ (fun _ _ _ => False) sb.room e0 (by
    have := bI s2 [.ref a] I2.kIn (by simpa using hl)
    simpa using this) r2 hspI) fun r s' hq' => ?_)
  cases r with
  | error e => exact xI pins σ _ s2 e s' I2 hq'
  | ok fl =>
    cases fl with
    | next => exact False.elim hq'
    | brk => exact False.elim hq'
    | cont => exact False.elim hq'
    | ret u =>
      obtain ⟨v, H', I', rv, it, ev, hit, hbig, eH⟩ := I2.after hq'
      subst ev
      cases rv
      rw [eH] at I'
      obtain ⟨ty, t, hty, st⟩ := (show SitP it x s'.heap from (I'.hok it _ upd_same).1)
      have hs0 : X.s_0.heap.objs.size ≤ it := Nat.le_trans hsz (Nat.le_of_lt hbig)
      have hqi : q ≠ it := fun z => by rw [← z, upd_same] at hit; cases hit
      have Hit : H it = none := by rw [upd_ne (Ne.symm hqi)] at hit; exact hit
      have I3 := ItX.inv_drop I' (φ := SitP it x) upd_same
      have hfp := ItX.inv_fp I' (u := SitO it x) upd_same hs0
      rw [ItX.dropH_upd hit] at I3 hfp
      have hT : s'.TypeIs (.ref it) ty := let ⟨o, ho, hc, _⟩ := st; ⟨o, ho, hc⟩
      have ha3 : upd H q (.lst []) a = some (.ins (G.ca c) dx fs) := ha2
      obtain ⟨mA', J', _⟩ := ins_get I3.hok ha3
      obtain ⟨od', J', _⟩ := J'.look
      -- an iterator
      have hnx : ∀ {Q : Value → Shared → Prop} {E : Value → Shared → Prop}, Q (.ref it) s' → PySem.W.OwitIt (model X.prog X.w) X.A.in1.in1 Q E (.ref it) s' := fun {Q E} h => by
        unfold PySem.W.OwitIt
        rcases hty with rfl | rfl
        · exact wpAny_specialOf hT F.slot_str_ascii_iterator_next.lookup h
        · exact wpAny_specialOf hT F.slot_str_iterator_next.lookup h
      refine hnx ?_
      refine wpAny_bind (wpAny_holding ?_)
      unfold Builtin.List.listLengthHint
      refine wpAny_bind (wpAny_bind (J'.type.here ((PySem.W.looks_findIn I3.kIn hc.nolen).here ?_)))
      refine PySem.W.KFB.if_not rfl ?_
      refine PySem.W.KFB.if_not rfl ?_
      refine wpAny_bind (wpAny_bind (J'.type.here ((PySem.W.looks_findIn I3.kIn hc.nohint).here ?_)))
      refine wpAny_pure ?_
      have hh : X.A.in1.in1.handled = none := I3.ok.hd hcm
      have done : ∀ {Rs : Result → Shared → Prop}, (∀ H' s', Inv X pins σ H' s' → H' = upd H q (.lst (chrs x)) → Rs (.ok (.ret .none)) s') → ∀ {s4 : Shared}, Inv X pins σ (upd H q (.lst [])) s4 → s4.heap.IsStrIter it ty x t 0 → codeAny (model X.prog X.w) X.A.in1 (.builtin "list.extend.loop" ⟨[.ref q, .ref it, .none], []⟩) Rs s4 := fun {Rs} hR {s4} I4 st4 =>
        sit_loop (A1 := X.A.in1) hty hh hz hqi hs0 hR Hit fr x.cps.size 0 s4 (by omega) (Nat.zero_le _) (by simpa using I4) (by simpa using hfp) st4
      have back : ∀ H' s', Inv X pins σ H' s' → H' = upd H q (.lst (chrs x)) → EP X pins σ Q (.ref q) s' := fun H' s' I' e => ⟨.ref q, H', I', rfl, by rw [e]; exact hQ⟩
      obtain ⟨z, its, k, r3, hl3, e3⟩ := I3.lstM upd_same
      cases r3
      refine wpAny_ite_split (fun _ => ?_) (fun _ => wpAny_pure ⟨plainId_quiet PySem.F.plain_extend_loop _, done (fun H' s' I' e => ⟨rfl, back H' s' I' e⟩) I3 st⟩)
      refine wpAny_bind (wpAny_rule ?_)
      refine wpAny_bind ?_
      show wpAny _ _ (updateSeq q (·.push .none) >>= fun _ => updateSeq q (·.pop)) _ _ _
      refine wpAny_bind (wpAny_updateSeq e3 rfl ?_)
      have I4 := I3.lset (f := (·.push Value.none)) (its' := [Value.none]) (ys := [.non]) (t' := s'.toks) upd_same e3 (by simp) (.cons rfl .nil) (by rw [List.length_singleton, sizeLine_eq]; decide)
      obtain ⟨z4, its4, k4, r4, hl4, e4⟩ := I4.lstM upd_same
      obtain ⟨u4, rfl, ru4⟩ := r4.one
      refine wpAny_updateSeq e4 rfl ?_ (by show 1 ≤ sizeLine; rw [sizeLine_eq]; decide) (by show 0 ≤ sizeLine + 1; exact Nat.zero_le _)
      have I5 := I4.lset (f := (·.pop)) (its := [u4]) (its' := []) (ys := []) (t' := s'.toks) upd_same e4 (by rfl) .nil (Nat.zero_le _)
      rw [upd_upd, upd_upd] at I5
      refine wpAny_pure ⟨plainId_quiet PySem.F.plain_extend_loop _, done (fun H' s' I' e => ⟨rfl, back H' s' I' e⟩) I5 ?_⟩
      obtain ⟨o, ho, hr⟩ := st
      exact ⟨o, (Heap.get?_update_other _ _ hqi).trans ((Heap.get?_update_other _ _ hqi).trans ho), hr⟩
end
end Mir
namespace Mir
open PySem PySem.Spec L2
open PyProof.Rows (envOfC)

structure ItK (G : GG) (k c : Nat) (f : Str) : Prop where
  ex : ∃ fi fd ps j, j + 2 ≤ k ∧ FnOk G.P G.w G.K G.mg G.base (L2.CX G.P G.w) j fi fd ps (spIt G c f) ∧ ItS G.K (G.ca c) fi ∧ Binds G.K fd ps []
theorem ItK.mono {G : GG} {j k c : Nat} {f : Str} (h : ItK G j c f) (l : j ≤ k) : ItK G k c f := by
  obtain ⟨fi, fd, ps, i, hi, r⟩ := h.ex
  exact ⟨fi, fd, ps, i, Nat.le_trans hi l, r⟩
def listO (c : Nat) (f : Str) : D → M D
  | .obj c' fs => if c' = c then (match fs.lookup f with
    | some (.str x) => if x.cps.size ≤ sizeLine then .ok (.lst (x.cps.toList.map fun c => D.str ⟨#[c]⟩)) else .stk
    | _ => .stk) else .stk
  | _ => .stk
theorem reps_chrs {G : GG} {S : Hp} : ∀ l : List Nat, Reps G S (l.map fun c => V.str ⟨#[c]⟩) (l.map fun c => D.str ⟨#[c]⟩)
  | [] => .nil
  | c :: r => .cons (.str _) (reps_chrs r)
theorem em_listO {F : Fm} {Γ : Gam} {a : Expr} {ma : M D} {c : Nat} {f : Str} {p pos : Pos} (K : ItK F.G F.k c f) (hcm : F.cm = true) (hg : F.kd.lookup ("list" : Str) = some .globalImplicit) (hm : F.G.mg "list" = none) (ha : EM F a Γ ma)
    (he : ∀ X, F.Xs X → starEach [a] X.env = (false, eval a X.env) :: starEach [] X.env := by intros; rfl) (hpl : ∀ X, F.Xs X → (backTo pos (starEach [] X.env)).any (·.1) = false := by intros; rfl) :
    EM F (.Call (.Name "list" p) [a] [] pos) Γ (b1 (listO c f) ma) := by
  obtain ⟨t, q, g⟩ := ha
  refine ⟨tCB (fun xs H Q => ∃ a dx fs x, xs = [.ref a] ∧ H a = some (.ins (F.G.ca c) dx fs) ∧ fs.lookup f = some (.str x) ∧ x.cps.size ≤ sizeLine ∧ ∀ q, H q = none → Q (.ref q) (upd H q (.lst (chrs x)))) (tCons t tNil), fun X hX => ?_, fun H0 σ S H Q hh po => ?_⟩
  · obtain ⟨fi, fd, ps, j, hj, ok, hI, hb⟩ := K.ex
    obtain ⟨h1, h2, h3, h4, h5, _⟩ := F.hX X hX
    rw [← h1, ← h2, ← h3, ← h4, ← h5] at ok
    rw [← h3] at hI hb
    refine pe_callTy (call_listIt hI ok hb (fun pins σ H s e s' I cx => ?_) (F.hc hcm X hX) ((F.hr hcm X hX).mono hj)) (F.gl X hX hg) (by rw [h4]; exact hm) rfl (pa_cons (q X hX) pa_nil (he X hX)) (by decide) (by decide) (he X hX) (hpl X hX)
    obtain ⟨_, _, _, _, _, _, _, _, _, _, _, _, z⟩ := cx
    exact False.elim z
  · refine g H0 σ S H _ hh (Po.bind po |>.imp fun d S1 H1 g1 k v r => ?_)
    cases d with
    | obj c' fs =>
      obtain ⟨hc, k2⟩ := Po.gate (m := (match fs.lookup f with
        | some (.str x) => if x.cps.size ≤ sizeLine then .ok (.lst (x.cps.toList.map fun c => D.str ⟨#[c]⟩)) else .stk
        | _ => .stk : M D)) k
      cases r with
      | obj h1 h2 n r =>
        rw [hc] at h1
        split at k2
        · rename_i x hx
          obtain ⟨hz, k3⟩ := Po.gate (m := M.ok (D.lst (x.cps.toList.map fun c => D.str ⟨#[c]⟩))) k2
          obtain ⟨v, hv, rv⟩ := lookup_rep n r hx
          cases rv
          refine ⟨_, _, _, x, rfl, g1.sub _ _ h1, hv, hz, fun q hq => ?_⟩
          have g2 := Grow.new (o := HO.lst (chrs x)) g1.sub hq
          exact k3 _ _ g2 _ (.lst upd_same (reps_chrs _))
        · exact False.elim k2
    | _ => exact False.elim k
end Mir
namespace Mir
open PySem PySem.Spec L2
open PyProof.Rows (envOfC)

/-! ### facts of the written part, in bundles that the kernel decides -/
section
variable {K : PySem.W.Frag} {C D : Addr}
def insB (K : PySem.W.Frag) (C : Addr) : Bool := PySem.W.plainGet K C Str.empty && PySem.W.hasDictIn K C && PySem.W.plainOver K C && (PySem.W.findIn K (.ref C) "__setattr__" == some (some (.builtin "object.__setattr__"))) &&
  (PySem.W.findIn K (.ref C) "__class__" == some (some (.builtin "object.__class__"))) && (PySem.W.specialIn K (.builtin "object.__class__") "__get__" == some (some (.builtin "getset_descriptor.__get__"))) && (PySem.W.takesIn K (.builtin "object.__class__") == some true) && (PySem.W.mroIn K C (.type "object") == some true)
theorem insB_ok (h : insB K C = true) : Cls K C ∧ PySem.W.findIn K (.ref C) "__class__" = some (some (.builtin "object.__class__")) ∧
      PySem.W.specialIn K (.builtin "object.__class__") "__get__" = some (some (.builtin "getset_descriptor.__get__")) ∧ PySem.W.takesIn K (.builtin "object.__class__") = some true ∧ PySem.W.mroIn K C (.type "object") = some true := by
  unfold insB at h
  simp only [Bool.and_eq_true, beq_iff_eq] at h
  obtain ⟨⟨⟨⟨⟨⟨⟨a, b⟩, c⟩, d⟩, e⟩, f⟩, g⟩, i⟩ := h
  exact ⟨⟨a, b, c, d⟩, e, f, g, i⟩
def excCB (K : PySem.W.Frag) (D : Addr) : Bool := (PySem.W.findIn K (.ref D) "__getattribute__" == some (some (.builtin "BaseException.__getattribute__"))) && (PySem.W.findIn K (.ref D) "__getattr__" == some none) && (PySem.W.subIn K (.ref D) (.type "BaseException") == some true) && PySem.W.hasDictIn K D &&
  (PySem.W.findIn K (.ref D) "__class__" == some (some (.builtin "object.__class__"))) && (PySem.W.specialIn K (.builtin "object.__class__") "__get__" == some (some (.builtin "getset_descriptor.__get__"))) && (PySem.W.takesIn K (.builtin "object.__class__") == some true) && (PySem.W.mroIn K D (.type "object") == some true)
theorem excCB_ok (h : excCB K D = true) : ExcC K D := by
  unfold excCB at h
  simp only [Bool.and_eq_true, beq_iff_eq] at h
  obtain ⟨⟨⟨⟨⟨⟨⟨a, b⟩, c⟩, d⟩, e⟩, f⟩, g⟩, i⟩ := h
  exact ⟨a, b, c, d, e, f, g, i⟩
def xcB (K : PySem.W.Frag) (es : List Value) (cv : Value) (tab : List Bool) : Bool := (es.zip tab).all fun p => decide (PySem.W.exmOne K p.1 cv = some p.2) && decide (PySem.W.kitOne K p.1 cv = some p.2)
theorem xcB_ok {es : List Value} {cv : Value} {tab : List Bool} (h : xcB K es cv tab = true) {c : Nat} {b : Bool} {e : Value} (he : es[c]? = some e) (hb : tab[c]? = some b) : PySem.W.exmOne K e cv = some b ∧ PySem.W.kitOne K e cv = some b := by
  have hz : (es.zip tab)[c]? = some (e, b) := by rw [List.getElem?_zip_eq_some]; exact ⟨he, hb⟩
  have := List.all_eq_true.mp h (e, b) (List.mem_of_getElem? hz)
  simpa using this
def ktB (K : PySem.W.Frag) (ca : Nat → Addr) (cv : Value) (tb : List (String × Bool)) (ob : List (Nat × Bool)) : Bool := (tb.all fun p => decide (PySem.W.kitOne K (.type p.1) cv = some p.2)) && ob.all fun p => decide (PySem.W.kitOne K (.ref (ca p.1)) cv = some p.2) && insB K (ca p.1)
theorem lookup_mem {α β : Type} [BEq α] [LawfulBEq α] : ∀ {l : List (α × β)} {a : α} {b : β}, l.lookup a = some b → (a, b) ∈ l
  | [], _, _, h => by cases h
  | (x, y) :: r, a, b, h => by
    rw [List.lookup_cons] at h
    by_cases q : a == x
    · simp only [q] at h
      cases h
      rw [eq_of_beq q]
      exact List.mem_cons_self
    · have q : (a == x) = false := by simpa using q
      rw [q] at h
      exact List.mem_cons_of_mem _ (lookup_mem h)
end
theorem tyN_mk {G : GG} {x : Str} {tb : List (String × Bool)} {ob : List (Nat × Bool)} {cv : Value} {v : V} (h : G.mg x = some cv ∨ (G.mg x = none ∧ bootBuiltins x = some cv ∧ x ≠ "__name__")) (r : RelV v cv) (k : ClsV v cv) (hk : ktB G.K G.ca cv tb ob = true) (db : (x == ("__debug__" : Str)) = false) : TyN G x tb ob := by
  unfold ktB at hk
  rw [Bool.and_eq_true] at hk
  refine ⟨⟨cv, v, h, r, k, fun t b hl => ?_, fun c b hl => ?_⟩, db⟩
  · simpa using List.all_eq_true.mp hk.1 (t, b) (lookup_mem hl)
  · have := List.all_eq_true.mp hk.2 (c, b) (lookup_mem hl)
    rw [Bool.and_eq_true] at this
    exact ⟨by simpa using this.1, insB_ok this.2⟩
theorem xcN_mk {G : GG} {x : Str} {tab : List Bool} {es : List Value} {cv : Value} {v : V} (h : G.mg x = some cv ∨ (G.mg x = none ∧ bootBuiltins x = some cv ∧ x ≠ "__name__")) (r : RelV v cv) (u : ∀ u, RelV v u → u = cv) (hx : ∀ c b, tab[c]? = some b → es[c]? = some (G.xc c)) (hk : xcB G.K es cv tab = true) (db : (x == ("__debug__" : Str)) = false) : XcN G x tab :=
  ⟨⟨cv, v, h, r, u, fun c b hb => xcB_ok hk (hx c b hb) hb⟩, db⟩
theorem kn_mk {G : GG} {lev : Nat} {x : Str} {m : List D → M D} {f : Addr} {fd : FuncData} {ps : List Str} (ok : FnOk G.P G.w G.K G.mg G.base (L2.CX G.P G.w) lev f fd ps (spM G m)) (hm : G.mg x = some (.ref f)) (hk : PySem.W.keepIn G.K (.ref f) = true) (hb : Binds G.K fd ps []) : Kn G lev x m := ⟨f, fd, ps, lev, Nat.le_refl _, ok, hm, hk, hb⟩

/-! ### a law -/
def spLaw (K : PySem.W.Frag) (m : List D → M D) : Sp := fun vs H Q _ => ∃ (a : Addr) (ns : List Int), vs = [.ref a] ∧ SqL K H a (ns.map V.int) ∧ m [.scr ns] = .ok (.bl true) ∧ ∀ H', Q (.bl true) H'
theorem law_imp {G : GG} {m : List D → M D} {vs : List V} {H : Hp} {Q : VK} {E : XK} (h : spLaw G.K m vs H Q E) : spM G m vs H Q E := by
  obtain ⟨a, ns, rfl, hS, hm, q⟩ := h
  refine ⟨H, [.scr ns], Same.refl _, .cons (.scr hS) .nil, ?_⟩
  rw [hm]
  intro S' H' g v r
  cases r
  exact q H'
end Mir
namespace Mir
open PySem PySem.Spec L2
open PyProof.Rows (envOfC)

section
variable {F : Fm} {Γ : Gam} {X S : Type} {fx : X → Gam} {fs : S → Gam} {x0 : X} {a b c e o : Expr} {es : List Expr} {ma mb mc m mo me : M D} {pos apos : Pos} {rest : List Stmt}
/-! ### o op p, two instances of one class, by the class's own def -/
def cmpO (c : Nat) (m : List D → M D) (x y : D) : M D := match x, y with
  | .obj c1 fs, .obj c2 gs => if c1 = c ∧ c2 = c then m [.obj c1 fs, .obj c2 gs] else .stk
  | _, _ => .stk
def rCmpO (G : GG) (c : Nat) (m : List D → M D) (W : WX) : L2.St → R2 := fun σ x y H Q => ∃ a dx fs b dy gs, x = .ref a ∧ y = .ref b ∧ H a = some (.ins (G.ca c) dx fs) ∧ H b = some (.ins (G.ca c) dy gs) ∧ spM G m [x, y] H Q (WE W σ)
theorem rms_cmpO {c : Nat} {m : List D → M D} : RMS F (rCmpO F.G c m F.W) (cmpO c m) := by
  intro x y vx vy σ S H Q ex rx ry p
  cases x with
  | obj c1 fs =>
    cases y with
    | obj c2 gs =>
      obtain ⟨⟨h1, h2⟩, q⟩ := Po.gate (m := m [.obj c1 fs, .obj c2 gs]) p
      subst h1
      subst h2
      cases rx with
      | obj x1 x2 n r =>
        cases ry with
        | obj y1 y2 n' r' => exact ⟨_, _, _, _, _, _, rfl, rfl, ex _ _ x1, ex _ _ y1, S, [.obj _ fs, .obj _ gs], ex, .cons (.obj x1 x2 n r) (.cons (.obj y1 y2 n' r') .nil), q⟩
    | _ => exact False.elim p
  | _ => exact False.elim p
theorem ops_cmpO {op : CmpOp} {c : Nat} {m : List D → M D} (hop : ∀ a b, compareOp op a b = richCompare op a b) (K : DunK F.G F.k c (cmpInfo op).2.1 m) (hcm : F.cm = true) (X : Cx) (hX : F.Xs X) : OpS X (compareOp op) (rCmpO F.G c m F.W) := by
  intro pins s σ H x y v u Q I rx ry ⟨a', dx, fs', b', dy, gs', e1, e2, h1', h2', q⟩
  obtain ⟨f, fd, ps, j, hj, ok, h1, h2, h3, h4⟩ := K.at (k := 0) X hX
  subst e1
  subst e2
  obtain rfl : v = Value.ref a' := rx
  obtain rfl : u = Value.ref b' := ry
  obtain ⟨ox, od, J⟩ := ins_J I h1'
  obtain ⟨ox', od', J'⟩ := ins_J I h2'
  obtain ⟨mm, hF⟩ := I.fr
  rw [hop]
  refine PySem.W.cmp_K (op := op) (tb := .ref (F.G.ca c)) (F.hr hcm X hX).units0 hF I.ok.mod.kin J J'.type (by simp [PySem.W.notFirst]) h1 h2 ?_
  refine wpAny_mono (call_atS (us := [.ref a', .ref b']) (ws := [.ref a', .ref b']) ok h4 ((F.hr hcm X hX).mono (Nat.le_of_succ_le hj)) I.env0 (passAt (F.tk X hX) σ) I (.cons rfl (.cons rfl .nil)) q) (fun w s' z => ?_) fun _ _ x => x
  obtain ⟨z', H', I', rz, qz⟩ := z
  exact SlX.cmpback rz ⟨z', H', I', rz, qz⟩
theorem em_eqO {c : Nat} {m : List D → M D} (K : DunK F.G F.k c "__eq__" m) (hcm : F.cm = true) (ha : EM F a Γ ma) (hb : EM F b Γ mb) (hm : behindInMarks .Eq b = false) : EM F (.Compare a [.Eq] [b] pos) Γ (b2 (cmpO c m) ma mb) :=
  em_cmpS (fun X hX => ops_cmpO (fun _ _ => rfl) K hcm X hX) rms_cmpO ha hb hm
theorem tm_eqO {c : Nat} {m : List D → M D} (K : DunK F.G F.k c "__eq__" m) (hcm : F.cm = true) (ha : EM F a Γ ma) (hb : EM F b Γ mb) (hm : behindInMarks .Eq b = false) : TM F (.Compare a [.Eq] [b] pos) Γ (b1 isB (b2 (cmpO c m) ma mb)) :=
  tm_cmpS (fun X hX => ops_cmpO (fun _ _ => rfl) K hcm X hX) rms_cmpO ha hb hm
theorem em_ltO {c : Nat} {m : List D → M D} (K : DunK F.G F.k c "__lt__" m) (hcm : F.cm = true) (ha : EM F a Γ ma) (hb : EM F b Γ mb) (hm : behindInMarks .Lt b = false) : EM F (.Compare a [.Lt] [b] pos) Γ (b2 (cmpO c m) ma mb) :=
  em_cmpS (fun X hX => ops_cmpO (fun _ _ => rfl) K hcm X hX) rms_cmpO ha hb hm
theorem tm_ltO {c : Nat} {m : List D → M D} (K : DunK F.G F.k c "__lt__" m) (hcm : F.cm = true) (ha : EM F a Γ ma) (hb : EM F b Γ mb) (hm : behindInMarks .Lt b = false) : TM F (.Compare a [.Lt] [b] pos) Γ (b1 isB (b2 (cmpO c m) ma mb)) :=
  tm_cmpS (fun X hX => ops_cmpO (fun _ _ => rfl) K hcm X hX) rms_cmpO ha hb hm

/-! ### -o -/
def unO (c : Nat) (m : List D → M D) (x : D) : M D := match x with
  | .obj c1 fs => if c1 = c then m [.obj c1 fs] else .stk
  | _ => .stk
def tUnO (G : GG) (c : Nat) (m : List D → M D) (W : WX) (ta : TE) : TE := fun σ H Q => ta σ H fun x H1 => ∃ a dx fs, x = .ref a ∧ H1 a = some (.ins (G.ca c) dx fs) ∧ spM G m [x] H1 Q (WE W σ)
theorem ev_unO {c : Nat} {m : List D → M D} {ta : TE} (ea : EvM F ta Γ ma) : EvM F (tUnO F.G c m F.W ta) Γ (b1 (unO c m) ma) := fun H0 σ S H Q hh p => by
  refine ea H0 σ S H _ hh ((Po.bind p).imp fun x S1 H1 g1 q1 vx rx => ?_)
  cases x with
  | obj c1 fs =>
    obtain ⟨h1, q⟩ := Po.gate (m := m [.obj c1 fs]) q1
    subst h1
    cases rx with
    | obj x1 x2 n r => exact ⟨_, _, _, rfl, g1.sub _ _ x1, S1, [.obj _ fs], g1.sub, .cons (.obj x1 x2 n r) .nil, q⟩
  | _ => exact False.elim q1
theorem em_negO {c : Nat} {m : List D → M D} (K : DunK F.G F.k c "__neg__" m) (hcm : F.cm = true) (ha : EM F a Γ ma) : EM F (.UnaryOp .USub a pos) Γ (b1 (unO c m) ma) := by
  obtain ⟨ta, pa, ea⟩ := ha
  refine ⟨tUnO F.G c m F.W ta, fun X hX => ⟨fun pins s σ H Q I h => ?_⟩, ev_unO ea⟩
  obtain ⟨f, fd, ps, j, hj, ok, h1, h2, h3, h4⟩ := K.at (k := 0) X hX
  refine PyProof.Rows.UnaryOp_ (thn ((pa X hX).run pins s σ H _ I h) fun v s1 ⟨x, H1, I1, r1, a', dx, fs', e1, h1', q⟩ => ?_)
  subst e1
  obtain rfl : v = Value.ref a' := r1
  obtain ⟨ox, od, J⟩ := ins_J I1 h1'
  obtain ⟨mm, hF⟩ := I1.fr
  exact PySem.W.ksp_neg hF I1.ok.mod.kin J h1 h2 (call_atS (us := [.ref a']) (ws := [.ref a']) ok h4 ((F.hr hcm X hX).mono (Nat.le_of_succ_le hj)) I1.env0 (passAt (F.tk X hX) σ) I1 (.cons rfl .nil) q)
end

/-! ### x < y of plain data that are alike -/
def rLtD (K : PySem.W.Frag) : R2 := fun x y H Q => ∃ d e, Dp K H x d ∧ Dp K H y e ∧ PySem.W.alike d e = true ∧ d ≠ .none ∧ d.depth ≤ 64 ∧ Q (.bl (PySem.W.dataLt d e)) H
theorem op_ltD {X : Cx} (hu : X.A.units + 64 < cLine) : OpR X (compareOp .Lt) (rLtD X.K) := by
  intro pins s σ H x y v u Q I rx ry h
  obtain ⟨d, e, hd, he, ha, hn, hp, q⟩ := h
  obtain ⟨as, r1⟩ := Dp.reads I d x v hd rx
  obtain ⟨bs, r2⟩ := Dp.reads I e y u he ry
  exact PySem.W.rcLt_alike d e X.A s v u as bs r1 r2 ha hn (by have := Nat.min_le_left d.depth e.depth; omega) X.prog X.w _ _ ⟨.bl _, H, I, rfl, q⟩
def noneD : PyData → Bool
  | .none => true
  | _ => false
def ltD (x y : D) : M D := match toPy x, toPy y with
  | some p, some q => if PySem.W.alike p q = true ∧ noneD p = false ∧ p.depth ≤ 64 then .ok (.bl (PySem.W.dataLt p q)) else .stk
  | _, _ => .stk
theorem rm_ltD {F : Fm} : RM F (rLtD F.G.K) ltD := by
  intro x y vx vy σ S H Q ex rx ry p
  unfold ltD at p
  split at p
  · rename_i p1 q1 h1 h2
    obtain ⟨⟨h3, h4, h5⟩, p⟩ := Po.gate (m := M.ok (D.bl (PySem.W.dataLt p1 q1))) p
    exact ⟨_, _, rep_dp (rx.mono ex) h1, rep_dp (ry.mono ex) h2, h3, (fun z => by subst z; cases h4), h5, p.ok ex _ (.bl _)⟩
  · exact False.elim p
theorem ok_ltD {F : Fm} (X : Cx) (hX : F.Xs X) : OpR X (compareOp .Lt) (rLtD F.G.K) := by
  have h := op_ltD (F.hu X hX)
  rw [F.hK X hX] at h
  exact h
end Mir
namespace Mir
open PySem PySem.Spec L2
open PyProof.Rows (envOfC)

/-! ### sorted(xs), whole numbers -/
def intsOf : List D → Option (List Int)
  | [] => some []
  | .int x :: ds => (intsOf ds).map (x :: ·)
  | _ => none
theorem reps_intsOf {G : GG} {S : Hp} : ∀ {ds : List D} {vs : List V} {ys : List Int}, Reps G S vs ds → intsOf ds = some ys → vs = ys.map V.int
  | [], _, _, .nil, e => by cases e; rfl
  | d :: ds, _, _, .cons h r, e => by
    cases d with
    | int x =>
      unfold intsOf at e
      cases q : intsOf ds with
      | none => rw [q] at e; cases e
      | some zs =>
        rw [q] at e
        cases e
        cases h
        rw [reps_intsOf r q]
        rfl
    | _ => cases e
theorem reps_of_ints {G : GG} {S : Hp} : ∀ ys : List Int, Reps G S (ys.map V.int) (ys.map D.int)
  | [] => .nil
  | y :: ys => .cons (.int y) (reps_of_ints ys)
def insI (x : Int) : List Int → List Int
  | [] => [x]
  | y :: l => if x ≤ y then x :: y :: l else y :: insI x l
def isortI : List Int → List Int
  | [] => []
  | x :: l => insI x (isortI l)
theorem insI_perm (x : Int) : ∀ l : List Int, (insI x l).Perm (x :: l)
  | [] => .refl _
  | y :: l => by
    unfold insI
    split
    · exact .refl _
    · exact ((insI_perm x l).cons y).trans (.swap x y l)
theorem isortI_perm : ∀ l : List Int, (isortI l).Perm l
  | [] => .refl _
  | x :: l => (insI_perm x _).trans ((isortI_perm l).cons x)
theorem insI_sorted (x : Int) : ∀ l : List Int, l.Pairwise (· ≤ ·) → (insI x l).Pairwise (· ≤ ·)
  | [], _ => by simp [insI]
  | y :: l, h => by
    unfold insI
    obtain ⟨h1, h2⟩ := List.pairwise_cons.mp h
    split
    · rename_i hxy
      refine List.pairwise_cons.mpr ⟨fun z hz => ?_, h⟩
      rcases List.mem_cons.mp hz with rfl | hz
      · exact hxy
      · exact Int.le_trans hxy (h1 z hz)
    · rename_i hxy
      refine List.pairwise_cons.mpr ⟨fun z hz => ?_, insI_sorted x l h2⟩
      rcases List.mem_cons.mp ((insI_perm x l).mem_iff.mp hz) with rfl | hz
      · omega
      · exact h1 z hz
theorem isortI_sorted : ∀ l : List Int, (isortI l).Pairwise (· ≤ ·)
  | [] => .nil
  | x :: l => insI_sorted x _ (isortI_sorted l)
theorem sorted_uniq {a b : List Int} (p : a.Perm b) (h1 : a.Pairwise (· ≤ ·)) (h2 : b.Pairwise (· ≤ ·)) : a = b := p.eq_of_pairwise (le := fun x y : Int => decide (x ≤ y)) (fun x y _ _ h k => by have := of_decide_eq_true h; have := of_decide_eq_true k; omega) (h1.imp fun h => decide_eq_true h) (h2.imp fun h => decide_eq_true h)
def pySorted : List D → M D
  | [.lst ds] => (ofOpt (intsOf ds)).bind fun ns => .ok (.lst ((isortI ns).map D.int))
  | _ => .stk
section
variable {F : Fm} {Γ : Gam} {X S : Type} {fx : X → Gam} {fs : S → Gam} {x0 : X} {a b c e o : Expr} {es : List Expr} {ma mb mc m mo me : M D} {pos apos : Pos} {rest : List Stmt}
theorem cm_sorted : CM F (rSortedI F.G.K) pySorted := by
  intro ds vs E S H Q ex r p
  match ds, r, p with
  | [.lst xs], r, p =>
    obtain ⟨v, rfl, h⟩ := reps1 r
    obtain ⟨ns, hn, p⟩ := Po.opt (o := intsOf xs) p
    cases h with
    | lst h r =>
      rw [reps_intsOf r hn] at h
      refine ⟨_, ns, rfl, SqL.of (ex _ _ h), fun ns' q pm so hq => ?_⟩
      have e : ns' = isortI ns := sorted_uniq (pm.trans (isortI_perm ns).symm) so (isortI_sorted ns)
      subst e
      exact ev_newL (G := F.G) ex (reps_of_ints _) p q hq
theorem em_sorted {p : Pos} {ml : M (List D)} (hg : F.kd.lookup ("sorted" : Str) = some NameKind.globalImplicit) (hm : F.G.mg "sorted" = none) (ha : AM F (e :: es) Γ ml)
    (he : ∀ X, F.Xs X → starEach (e :: es) X.env = (false, eval e X.env) :: starEach es X.env := by intros; rfl) (hpl : ∀ X, F.Xs X → (backTo pos (starEach es X.env)).any (·.1) = false := by intros; rfl) : EM F (.Call (.Name "sorted" p) (e :: es) [] pos) Γ (b1 pySorted ml) :=
  em_callB (r := rSortedI F.G.K) (fun X hX => by have h := cr_sortedI (X := X); rw [F.hK X hX] at h; exact h) cm_sorted hg hm (by decide +kernel) ha (by decide) (by decide) he hpl
/-! ### all(bs) -/
def bolsOf : List D → Option (List Bool)
  | [] => some []
  | .bl x :: ds => (bolsOf ds).map (x :: ·)
  | _ => none
theorem reps_bolsOf {G : GG} {S : Hp} : ∀ {ds : List D} {vs : List V} {ys : List Bool}, Reps G S vs ds → bolsOf ds = some ys → vs = ys.map V.bl
  | [], _, _, .nil, e => by cases e; rfl
  | d :: ds, _, _, .cons h r, e => by
    cases d with
    | bl x =>
      unfold bolsOf at e
      cases q : bolsOf ds with
      | none => rw [q] at e; cases e
      | some zs =>
        rw [q] at e
        cases e
        cases h
        rw [reps_bolsOf r q]
        rfl
    | _ => cases e
def pyAll : List D → M D
  | [.lst ds] => (ofOpt (bolsOf ds)).bind fun bs => .ok (.bl (bs.all id))
  | _ => .stk
theorem cm_all : CM F (rAll F.G.K) pyAll := by
  intro ds vs E S H Q ex r p
  match ds, r, p with
  | [.lst xs], r, p =>
    obtain ⟨v, rfl, h⟩ := reps1 r
    obtain ⟨bs, hn, p⟩ := Po.opt (o := bolsOf xs) p
    cases h with
    | lst h r =>
      rw [reps_bolsOf r hn] at h
      exact ⟨_, bs, rfl, SqL.of (ex _ _ h), p.ok ex _ (.bl _)⟩
theorem em_all {p : Pos} {ml : M (List D)} (hcm : F.cm = true) (hg : F.kd.lookup ("all" : Str) = some NameKind.globalImplicit) (hm : F.G.mg "all" = none) (ha : AM F (e :: es) Γ ml)
    (he : ∀ X, F.Xs X → starEach (e :: es) X.env = (false, eval e X.env) :: starEach es X.env := by intros; rfl) (hpl : ∀ X, F.Xs X → (backTo pos (starEach es X.env)).any (·.1) = false := by intros; rfl) : EM F (.Call (.Name "all" p) (e :: es) [] pos) Γ (b1 pyAll ml) :=
  em_callB (r := rAll F.G.K) (fun X hX => by have h := cr_all (X := X) (F.hc hcm X hX); rw [F.hK X hX] at h; exact h) cm_all hg hm (by decide +kernel) ha (by decide) (by decide) he hpl

/-! ### list(range(n)) -/
def pyListRg : D → M D
  | .int n => if -(2 ^ 62) ≤ n ∧ n < 16777216 then .ok (.lst (rangeD 0 n.toNat)) else .stk
  | _ => .stk
theorem reps_rg {G : GG} {S : Hp} {n : Int} : Reps G S (rgV 0 n) (rangeD 0 n.toNat) := by
  unfold rgV rangeD
  rw [Int.sub_zero]
  generalize List.range n.toNat = l
  induction l with
  | nil => exact .nil
  | cons x l ih => exact .cons (.int _) ih
theorem em_listRg {p p1 pos1 : Pos} (hcm : F.cm = true) (hg : F.kd.lookup ("list" : Str) = some NameKind.globalImplicit) (hm : F.G.mg "list" = none) (hg1 : F.kd.lookup ("range" : Str) = some NameKind.globalImplicit) (hm1 : F.G.mg "range" = none) (ha : EM F a Γ ma)
    (na : ∀ X, F.Xs X → starEach [a] X.env = (false, eval a X.env) :: starEach [] X.env := by intros; rfl) (na1 : ∀ X, F.Xs X → starEach [.Call (.Name "range" p1) [a] [] pos1] X.env = (false, eval (.Call (.Name "range" p1) [a] [] pos1) X.env) :: starEach [] X.env := by intros; rfl) :
    EM F (.Call (.Name "list" p) [.Call (.Name "range" p1) [a] [] pos1] [] pos) Γ (b1 pyListRg ma) := by
  obtain ⟨ta, pa, ea⟩ := ha
  refine ⟨tLstRg (tRg1 ta), fun X hX => pe_listRg (F.hc hcm X hX) (F.gl X hX hg) (by rw [(F.hX X hX).2.2.2.1]; exact hm) (prg_1 (F.gl X hX hg1) (by rw [(F.hX X hX).2.2.2.1]; exact hm1) (pa X hX) (na X hX)) (na1 X hX), fun H0 σ S H Q hh po => ?_⟩
  refine ea H0 σ S H _ hh ((Po.bind po).imp fun d S1 H1 g1 k v r => ?_)
  cases d with
  | int n =>
    obtain ⟨hl, k⟩ := Po.gate (m := M.ok (D.lst (rangeD 0 n.toNat))) k
    cases r
    refine ⟨n, rfl, ⟨by decide, by decide, by omega, by omega, by omega⟩, ?_⟩
    exact ev_newL (G := F.G) g1.sub reps_rg k
  | _ => exact False.elim k

/-! ### xs.index(y), flat items -/
def findD (y : D) : Nat → List D → Option Nat
  | _, [] => none
  | k, d :: ds => if eqF d y = true then some k else findD y (k + 1) ds
def pyIndexOf (ds : List D) (y : D) : M D := if flatD y = true ∧ ds.all flatD = true then (ofOpt (findD y 0 ds)).bind fun j => .ok (.int (j : Int)) else .stk
def indexM (mo me : M D) : M D := mo.bind fun x => match x with
  | .lst ds => me.bind fun y => pyIndexOf ds y
  | _ => .stk
theorem findD_at {y : D} : ∀ {ds : List D} {k j : Nat}, findD y k ds = some j → ∃ i d, j = k + i ∧ ds[i]? = some d ∧ eqF d y = true ∧ ∀ (m : Nat) d', m < i → ds[m]? = some d' → eqF d' y = false
  | [], k, j, h => by cases h
  | d :: ds, k, j, h => by
    unfold findD at h
    by_cases hd : eqF d y = true
    · rw [if_pos hd] at h
      cases h
      exact ⟨0, d, by omega, rfl, hd, fun m d' hm => absurd hm (by omega)⟩
    · rw [if_neg hd] at h
      obtain ⟨i, d1, h1, h2, h3, h4⟩ := findD_at h
      refine ⟨i + 1, d1, by omega, by simpa using h2, h3, fun m d' hm hm' => ?_⟩
      cases m with
      | zero =>
        simp at hm'
        subst hm'
        simpa using hd
      | succ m => exact h4 m d' (by omega) (by simpa using hm')
theorem rep_flatB {G : GG} {S : Hp} {v w : V} {d e : D} (r : Rep G S v d) (q : Rep G S w e) (h : flatD d = true) (k : flatD e = true) : eqV v w = eqF d e := rep_eqF r q h k
theorem em_index (hbm : ∀ t ty, (∀ Y, F.Xs Y → PE Y o t) → (∀ Y, F.Xs Y → PE Y e ty) → ∀ Y, F.Xs Y → PE Y (.Call (.Attribute o "index" apos) [e] [] pos) (tBM Y.K "list" (rIndex Y.K) t (tCons ty tNil))) (ho : EM F o Γ mo) (he : EM F e Γ me) : EM F (.Call (.Attribute o "index" apos) [e] [] pos) Γ (indexM mo me) := by
  obtain ⟨to, po, eo⟩ := ho
  obtain ⟨te, pe, ee⟩ := he
  refine ⟨tBM F.G.K "list" (rIndex F.G.K) to (tCons te tNil), fun X hX => (by have h := hbm to te po pe X hX; rw [F.hK X hX] at h; exact h), fun H0 σ S H Q hh p => ?_⟩
  refine eo H0 σ S H _ hh ((Po.bind p).imp fun x S1 H1 g1 q1 vx rx => ?_)
  cases x with
  | lst ds =>
    cases rx with
    | @lst pl vs _ h1 r =>
      refine ⟨.inl ⟨rfl, _, SqL.of (g1.sub _ _ h1)⟩, ?_⟩
      refine ee H0 σ S1 H1 _ (hh.grow g1) ((Po.bind q1).imp fun y S2 H2 g2 q2 vy ry => ?_)
      obtain ⟨⟨hf, hfs⟩, q2⟩ := Po.gate (m := (ofOpt (findD y 0 ds)).bind fun j => M.ok (D.int (j : Int))) q2
      obtain ⟨j, hj, q2⟩ := Po.opt (o := findD y 0 ds) q2
      obtain ⟨i, d, rfl, hd, he, hno⟩ := findD_at hj
      have r2 := r.mono g2.s
      obtain ⟨z, hz, rz⟩ := r2.get hd
      have fd : ∀ (m : Nat) d', ds[m]? = some d' → flatD d' = true := fun m d' hm => List.all_eq_true.mp hfs d' (List.mem_of_getElem? hm)
      refine ⟨pl, vs, vy, i, z, rfl, rfl, SqL.of (g2.sub _ _ (g2.s _ _ h1)), rep_flat ry hf, reps_flat r2 hfs, hz, by rw [rep_eqF rz ry (fd i d hd) hf]; exact he, fun m z' hm hz' => ?_, ?_⟩
      · have hlt : m < ds.length := by
          rw [← r2.length]
          exact (List.getElem?_eq_some_iff.mp hz').1
        obtain ⟨z2, h2, r3⟩ := r2.get (List.getElem?_eq_getElem hlt)
        rw [hz'] at h2
        cases h2
        rw [rep_eqF r3 ry (fd m _ (List.getElem?_eq_getElem hlt)) hf]
        exact hno m _ hm (List.getElem?_eq_getElem hlt)
      · rw [Nat.zero_add] at q2
        exact Po.ok (a := D.int (i : Int)) g2.sub q2 _ (.int _)
  | _ => exact False.elim q1

/-! ### o.m(e, ..), an own method -/
structure MethK (G : GG) (k c : Nat) (name : Str) (m : List D → M D) : Prop where
  ex : ∃ f fd ps j, j ≤ k ∧ FnOk G.P G.w G.K G.mg G.base (L2.CX G.P G.w) j f fd ps (spM G m) ∧ Meth G.K (G.ca c) name f ∧ Cls G.K (G.ca c) ∧ Binds G.K fd ps []
theorem MethK.mono {G : GG} {j k c : Nat} {x : Str} {m : List D → M D} (h : MethK G j c x m) (l : j ≤ k) : MethK G k c x m := by
  obtain ⟨f, fd, ps, i, hi, r⟩ := h.ex
  exact ⟨f, fd, ps, i, Nat.le_trans hi l, r⟩
def methM (c : Nat) (name : Str) (m : List D → M D) (mo : M D) (ml : M (List D)) : M D := mo.bind fun x => match x with
  | .obj c' fs => if c' = c ∧ fs.lookup name = none then ml.bind fun ds => m (.obj c' fs :: ds) else .stk
  | _ => .stk
theorem lookup_none_rep {f : Str} : ∀ {vs : List (Str × V)} {fs : List (Str × D)}, vs.map (·.1) = fs.map (·.1) → fs.lookup f = none → vs.lookup f = none
  | [], [], _, _ => rfl
  | (a, v) :: vs, (b, x) :: fs, n, e => by
    obtain ⟨n1, n2⟩ := List.cons.inj n
    have n1 : a = b := n1
    subst n1
    rw [List.lookup_cons] at e ⊢
    cases q : f == a with
    | true => simp only [q] at e; cases e
    | false => simp only [q] at e ⊢; exact lookup_none_rep n2 e
  | [], _ :: _, n, _ => by cases n
  | _ :: _, [], n, _ => by cases n
def tMethS (G : GG) (c : Nat) (name : Str) (m : List D → M D) (W : WX) (ta : TE) (t : TA) : TE := fun σ H Q => ta σ H fun x H1 => ∃ a dx fs, x = .ref a ∧ H1 a = some (.ins (G.ca c) dx fs) ∧ fs.lookup name = none ∧ t σ H1 fun vs H2 => spM G m (x :: vs) H2 Q (WE W σ)
theorem em_meth {c : Nat} {name : Str} {m : List D → M D} {ml : M (List D)} {pl : Cx → Sem Bool} (K : MethK F.G F.k c name m) (hcm : F.cm = true) (ho : EM F o Γ mo) (ha : AM F (e :: es) Γ ml)
    (ht : ∀ X, F.Xs X → eval (.Call (.Attribute o name apos) (e :: es) [] pos) X.env = (do
      let ov ← eval o X.env
      standAt apos.atName
      let (f, first) ← holding [ov] (getMethod ov name (pl X))
      callWith pos f first (backTo pos (starEach (e :: es) X.env)) (backToKw pos (keywordEach [] X.env))) := by intros; rfl)
    (hst : ∀ X, F.Xs X → starEach (e :: es) X.env = (false, eval e X.env) :: starEach es X.env := by intros; rfl) (hpl : ∀ X, F.Xs X → (backTo pos (starEach es X.env)).any (·.1) = false := by intros; rfl) :
    EM F (.Call (.Attribute o name apos) (e :: es) [] pos) Γ (methM c name m mo ml) := by
  obtain ⟨ta, pa, ea⟩ := ho
  obtain ⟨t, q, g⟩ := ha
  refine ⟨tMethS F.G c name m F.W ta t, fun X hX => ⟨fun pins s σ H Q I h => ?_⟩, fun H0 σ S H Q hh po => ?_⟩
  · obtain ⟨f, fd, ps, j, hj, ok, hm, hc, hb⟩ := K.ex
    obtain ⟨h1, h2, h3, h4, h5, _⟩ := F.hX X hX
    rw [← h1, ← h2, ← h3, ← h4, ← h5] at ok
    rw [← h3] at hm hc hb
    refine PySem.W.methodCall_KW (pl := pl X) (thn ((pa X hX).run pins s σ H _ I h) fun u s1 ⟨x, H1, I1, rx, a', dx, fs', ex, ea', l, q1⟩ => ?_) (ht X hX)
    subst ex
    obtain rfl : u = Value.ref a' := rx
    refine getmeth_ok I1 ea' hc hm l ?_
    refine PySem.W.callWith_K (first := [.ref a']) (h₀ := X.base) I.ok.mod.kin hm.kp (thn ((q X hX).run pos pins s1 σ H1 _ I1 q1) fun us s2 ⟨vs, H2, I2, r, q2⟩ => ⟨I2.kIn, ?_⟩) (hst X hX) (hpl X hX)
    exact call_atS (us := .ref a' :: us) (ws := .ref a' :: vs) ok hb ((F.hr hcm X hX).mono hj) I2.env0 (passAt (F.tk X hX) σ) I2 (.cons rfl r) q2
  · refine ea H0 σ S H _ hh ((Po.bind po).imp fun x S1 H1 g1 q1 vx rx => ?_)
    cases x with
    | obj c' fs =>
      cases rx with
      | @obj a' dx _ vs _ x1 x2 n r =>
        obtain ⟨⟨hcc, hl⟩, q3⟩ := Po.gate (m := ml.bind fun ds => m (.obj c' fs :: ds)) q1
        subst hcc
        refine ⟨a', dx, vs, rfl, g1.sub _ _ x1, lookup_none_rep n hl, ?_⟩
        exact g H0 σ S1 H1 _ (hh.grow g1) ((Po.bind q3).imp fun ds S2 H2 g2 k ws rs => ⟨S2, .obj _ fs :: ds, g2.sub, .cons (.obj (g2.s _ _ x1) (g2.s _ _ x2) n (r.mono g2.s)) rs, k⟩)
    | _ => exact False.elim q1
end
end Mir
namespace Mir
open PySem PySem.Spec L2
open PyProof.Rows (envOfC)

theorem Reps.erase {G : GG} {S : Hp} : ∀ {vs : List V} {ds : List D} (k : Nat), Reps G S vs ds → Reps G S (vs.eraseIdx k) (ds.eraseIdx k)
  | _, _, _, .nil => .nil
  | _, _, 0, .cons _ r => r
  | _, _, k + 1, .cons h r => .cons h (Reps.erase k r)
def appPopM (d1 d2 : D) (m : M D) : M (D × D) := match d1, d2 with
  | .lst xs, .lst ys => m.bind fun z => match z with
    | .int i => if -(2 ^ 63) ≤ i ∧ i < 2 ^ 63 ∧ xs.length < sizeLine then (ofOpt (seqIndex? i ys.length)).bind fun k => (ofOpt ys[k]?).bind fun y => .ok (.lst (xs ++ [y]), .lst (ys.eraseIdx k)) else .stk
    | _ => .stk
  | _, _ => .stk
section
variable {F : Fm} {Γ : Gam} {X S : Type} {fx : X → Gam} {fs : S → Gam} {x0 : X} {a b c e o : Expr} {es : List Expr} {ma mb mc m mo me : M D} {pos apos : Pos} {rest : List Stmt}
/-- x.append(y.pop(e)), both lists nobody else's -/
theorem bm_appPop (i j : Nat) {ce : Expr} {d1 d2 : D} {pos' : Pos} {k : D × D → Ctl X S} (hij : i ≠ j) (hΓ : Γ[i]? = some (Sl.own d1)) (hΓ2 : Γ[j]? = some (Sl.own d2)) (he : EM F e Γ m) (w : Weak Γ (fx x0))
    (hr : ∀ p : D × D, BM F rest ((Γ.set j (Sl.own p.2)).set i (Sl.own p.1)) ((k p).out fx fs))
    (hp : ∀ t, (∀ Y, F.Xs Y → PE Y e t) → ∀ Y, F.Xs Y → PE Y ce (tBM Y.K "list" rAppend (tVar i) (tCons (tBM Y.K "list" rPopAt (tVar j) (tCons t tNil)) tNil)))
    (hs : ∀ X, F.Xs X → swapsWith ce none pos'.line X.env = pure false := by intros; rfl) :
    BM F (.Expr ce pos' :: rest) Γ (((appPopM d1 d2 m).bindC x0 k).out fx fs) := by
  obtain ⟨t, q, f⟩ := he
  have hp : ∀ X, F.Xs X → PE X ce (tBM F.G.K "list" rAppend (tVar i) (tCons (tBM F.G.K "list" rPopAt (tVar j) (tCons t tNil)) tNil)) := fun X hX => by
    have h := hp t q X hX
    rw [F.hK X hX] at h
    exact h
  refine bm_cons (fun X hX => ps_expr (hp X hX) (hs X hX)) fun S0 H0 Dn σ S H g hh po => ?_
  obtain ⟨r, hσ, hS, h0, oa⟩ := hh.own i d1 hΓ
  obtain ⟨r2, hσ2, hS2, h02, oa2⟩ := hh.own j d2 hΓ2
  have hne : r ≠ r2 := fun z => by
    subst z
    exact hij (hh.dis i j _ _ _ hΓ hΓ2 hσ hσ2)
  cases d1 with
  | lst xs =>
    cases d2 with
    | lst ys =>
      obtain ⟨vs, hH, rs⟩ := oa
      obtain ⟨us, hH2, ru⟩ := oa2
      refine ⟨.ref r, hσ, .inl ⟨rfl, _, SqL.of hH⟩, .ref r2, hσ2, .inl ⟨rfl, _, SqL.of hH2⟩, ?_⟩
      have pb := opo_bind g hh w po
      refine f H0 σ S H _ hh ((Po.bind pb).imp fun z S1 H1 g1 q1 v rv => ?_)
      cases z with
      | int zi =>
        obtain ⟨⟨b1, b2, hl⟩, q1⟩ := Po.gate (m := (ofOpt (seqIndex? zi ys.length)).bind fun k => (ofOpt ys[k]?).bind fun y => M.ok (D.lst (xs ++ [y]), D.lst (ys.eraseIdx k))) q1
        obtain ⟨kk, hk, q1⟩ := Po.opt (o := seqIndex? zi ys.length) q1
        obtain ⟨y, hy, q1⟩ := Po.opt (o := ys[kk]?) q1
        obtain ⟨g2, h2, p2⟩ := q1.ok g1.sub
        cases rv
        have hH1 := g1.h _ _ hH
        have hH21 := g1.h _ _ hH2
        have hS1 := g1.sep r ⟨_, hH, fun _ z => by cases z⟩ hS
        have hS21 := g1.sep r2 ⟨_, hH2, fun _ z => by cases z⟩ hS2
        have ru1 := ru.mono g1.s
        obtain ⟨w', hw', rw'⟩ := ru1.get hy
        refine ⟨r2, us, zi, kk, w', rfl, rfl, hH21, b1, b2, by rw [ru1.length]; exact hk, hw', ?_⟩
        have hHr : upd H1 r2 (.lst (us.eraseIdx kk)) r = some (.lst vs) := by rw [upd_ne hne]; exact hH1
        refine ⟨r, vs, w', rfl, rfl, hHr, by rw [rs.length]; exact hl, ?_⟩
        have h3 := h2.ownUpd (d' := .lst (ys.eraseIdx kk)) hΓ2 hσ2 hS21 h02 (fun b z => by rw [hH21] at z; cases z) ⟨_, upd_same, Reps.erase kk ru1⟩
        have hΓ' : (Γ.set j (Sl.own (.lst (ys.eraseIdx kk))))[i]? = some (Sl.own (.lst xs)) := by rw [List.getElem?_set_ne (Ne.symm hij)]; exact hΓ
        have g3 := g2.own (o := .lst (us.eraseIdx kk)) hS21 h02
        exact (hr (.lst (xs ++ [y]), .lst (ys.eraseIdx kk))).c S0 H0 Dn σ S1 _ (g3.own hS1 h0) (h3.ownUpd (d' := .lst (xs ++ [y])) hΓ' hσ hS1 h0 (fun b z => by rw [hHr] at z; cases z) ⟨_, upd_same, (rs.mono g1.s).append (.cons rw' .nil)⟩) p2
      | _ => exact False.elim q1
    | _ => exact False.elim po
  | _ => exact False.elim po
/-- the slots in a literal list -/
theorem bm_lit {sts : List Stmt} {o : Out} (Γ' : Gam) (e : Γ = Γ') (h : BM F sts Γ' o) : BM F sts Γ o := e ▸ h
def clearM (d : D) : M D := match d with
  | .lst _ => .ok (.lst [])
  | _ => .stk
/-- x.clear(), x's list nobody else's -/
theorem bm_clear (i : Nat) {ce : Expr} {d : D} {pos' : Pos} {k : D → Ctl X S} (hΓ : Γ[i]? = some (Sl.own d)) (w : Weak Γ (fx x0)) (hr : ∀ d', BM F rest (Γ.set i (Sl.own d')) ((k d').out fx fs))
    (hp : ∀ Y, F.Xs Y → PE Y ce (tBM0 Y.K "list" rClear (tVar i))) (hs : ∀ X, F.Xs X → swapsWith ce none pos'.line X.env = pure false := by intros; rfl) :
    BM F (.Expr ce pos' :: rest) Γ (((clearM d).bindC x0 k).out fx fs) := by
  have hp : ∀ X, F.Xs X → PE X ce (tBM0 F.G.K "list" rClear (tVar i)) := fun X hX => by
    have h := hp X hX
    rw [F.hK X hX] at h
    exact h
  refine bm_cons (fun X hX => ps_expr (hp X hX) (hs X hX)) fun S0 H0 Dn σ S H g hh po => ?_
  obtain ⟨r, hσ, hS, h0, oa⟩ := hh.own i d hΓ
  cases d with
  | lst xs =>
    obtain ⟨vs, hH, rs⟩ := oa
    refine ⟨.ref r, hσ, .inl ⟨rfl, _, SqL.of hH⟩, r, vs, rfl, rfl, hH, ?_⟩
    exact (hr (.lst [])).c S0 H0 Dn σ S _ (g.own hS h0) (hh.ownUpd (d' := .lst []) hΓ hσ hS h0 (fun b z => by rw [hH] at z; cases z) ⟨[], upd_same, .nil⟩) po
  | _ => exact False.elim po
end
end Mir
namespace Mir
open PySem PySem.Spec L2
open PyProof.Rows (envOfC)

/-! ### fresh lists -/
section
variable {F : Fm} {Γ : Gam} {scope : Scope} {own : List (Str × Nat)} {V L : List Bool} {kd : List (Str × NameKind)} {elt tg iter : Expr} {ifs : List Expr} {pos : Pos} {mi : M (List D)} {f : D → M (List D)} {tf : D → Gam → Option Gam}
theorem evf_lc (B : BlkF F scope own V L kd) (hi : IM F tg iter Γ mi) {g : TG} (hg : ∀ H0 σ S H v d Γ Γ' (Q : L2.St → Hp → Prop), Holds F.G H0 σ S H Γ → Rep F.G S v d → tf d Γ = some Γ' → (∀ σ', Holds F.G H0 σ' S H Γ' → σ'.length = σ.length → (∀ i : Nat, L[i]? ≠ some true → σ'[i]? = σ[i]?) → Q σ' H) → g v σ H Q)
    (ht : TurnM (blkF F B) (wipeΓ Γ (own.map (·.2))) tf ifs elt f) : EvF F (tLc (cI F tg iter) g (cP (blkF F B) ifs) (cE (blkF F B) elt) (own.map (·.2))) Γ (lcM mi f) := by
  intro H0 σ S H Q hh po
  refine hi.c H0 σ S H _ hh ((Po.bind po).imp fun ds S1 H1 g1 q1 J hJ => ?_)
  intro A hA
  cases hc : compL f ds with
  | stk => rw [hc] at q1; exact False.elim q1
  | exn e => rw [hc] at q1; exact False.elim q1
  | ok R =>
    rw [hc] at q1
    obtain ⟨hR, q1⟩ := Po.gate (m := M.ok (D.lst R)) q1
    have h1 : Holds F.G H0 σ S1 H1 Γ := hh.grow g1
    refine ⟨fun i m H => m = ds.length - i ∧ i ≤ ds.length ∧ ∃ S acc r, Bs F.G S1 H1 A acc S H ∧ compL f (ds.drop i) = .ok r ∧ acc ++ r = R, ⟨ds.length, by simp, Nat.zero_le _, S1, [], R, Bs.start g1.sub hA, hc, rfl⟩, ?_⟩
    rintro i m H2 ⟨rfl, hi, S2, acc, r, b, hr, hR2⟩
    obtain ⟨stop, go⟩ := hJ S2 H2 b.grow.s b.grow.sub
    by_cases hlt : i < ds.length
    · obtain ⟨hgo, hy⟩ := go i ds[i] (List.getElem?_eq_getElem hlt)
      rw [List.drop_eq_getElem_cons hlt] at hr
      obtain ⟨xs, r', hx, hr', rfl⟩ := compL_cons hr
      refine .inr ⟨hgo, fun H => ∃ S, Bs F.G S1 H1 A (acc ++ xs) S H, fun H' ⟨S', b'⟩ => ⟨ds.length - (i + 1), by omega, rfl, hlt, S', acc ++ xs, r', b', hr', by rw [List.append_assoc]; exact hR2⟩, fun x H3 y => ?_⟩
      obtain ⟨S3, g3, r3⟩ := hy x H3 y
      rcases ht ds[i] with ⟨Γ', mt, me, e1, hif, hel, hf⟩ | z
      · have h3 := ((h1.grow b.grow).grow g3).wipe (own.map (·.2))
        refine hg H0 _ S3 H3 x ds[i] _ Γ' _ h3 r3 e1 fun σ4 h4 l4 k4 => ⟨wipe_eq l4 k4 B.hw |>.trans ?_, ?_⟩
        · refine List.ext_getElem? fun j => ?_
          by_cases hj : j ∈ own.map (·.2)
          · rw [wipe_at hj, wipe_at hj, wipe_length]
          · rw [wipe_out hj]
        rw [hf] at hx
        have b3 := b.step g3
        cases mt with
        | stk => cases hx
        | exn e => cases hx
        | ok c =>
          refine hif.c H0 σ4 S3 H3 _ h4 (fun S5 H5 g5 => ?_)
          cases c with
          | false =>
            cases hx
            refine iteF ?_
            rw [List.append_nil]
            exact ⟨S5, b3.step g5⟩
          | true =>
            cases me with
            | stk => cases hx
            | exn e => cases hx
            | ok y =>
              cases hx
              refine iteT (hel.c H0 σ4 S5 H5 _ (h4.grow g5) (fun S6 H6 g6 v rv => ?_))
              have b6 := (b3.step g5).step g6
              obtain ⟨vs, hvs, hlen⟩ := b6.len
              refine ⟨vs, hvs, ?_, S6, b6.add hA rv hvs⟩
              have : (acc ++ ([y] ++ r')).length = R.length := congrArg List.length hR2
              simp only [List.length_append, List.length_cons, List.length_nil] at this
              omega
      · rw [z] at hx; cases hx
    · have e : i = ds.length := by omega
      subst e
      rw [List.drop_length] at hr
      cases hr
      rw [List.append_nil] at hR2
      subst hR2
      obtain ⟨vs, hvs, rr⟩ := b.at_
      exact .inl ⟨stop, q1 S2 H2 b.grow A b.non (g1.h.free hA) ⟨vs, hvs, rr⟩⟩
theorem fe_lc (B : BlkF F scope own V L kd) (hcm : F.cm = true) (hi : IM F tg iter Γ mi) (hg : TgM (blkF F B) tg tf) (ht : TurnM (blkF F B) (wipeΓ Γ (own.map (·.2))) tf ifs elt f)
    (hs : ∀ X, F.Xs X → ∀ x, foldedSetIterable iter X.env x = pure x := by intros; rfl) : FE F (.ListComp elt [⟨tg, iter, ifs, 0⟩] scope pos) Γ (lcM mi f) := by
  obtain ⟨g, pg, eg⟩ := hg
  refine ⟨_, fun X hX => ?_, evf_lc B hi (g := g) (fun H0 σ S H v d Γ Γ' Q => eg H0 σ S H v d Γ Γ' Q) ht⟩
  have hn := F.hN X hX
  exact pe_lc (F.hc hcm X hX) (by rw [hn]; exact F.nd) (cI_ok X hX) (by rw [hn]; exact blk_of (by rw [F.hkd X hX]; exact B.ok)) (fun s H C cl fp => pg _ ⟨X, s, H, C, cl, fp, hX, rfl⟩) (fun s H C cl fp => cP_ok _ ⟨X, s, H, C, cl, fp, hX, rfl⟩) (fun s H C cl fp => cE_ok _ ⟨X, s, H, C, cl, fp, hX, rfl⟩) (hs X hX)
/-- name = [..] -/
theorem gf_lc (i : Nat) {x : Str} {py spos : Pos} (hx : F.N[i]? = some x) (B : BlkF F scope own V L kd) (hcm : F.cm = true) (hi : IM F tg iter Γ mi) (hg : TgM (blkF F B) tg tf) (ht : TurnM (blkF F B) (wipeΓ Γ (own.map (·.2))) tf ifs elt f)
    (hk : F.kd.lookup x = some .local) (hl : (py.line == pos.line) = true) (hl2 : (py.line == spos.line) = true) (ha : (scope.names.any fun (n, k) => n == x && (k == .local || k == .cell)) = false)
    (hs : ∀ X, F.Xs X → ∀ x, foldedSetIterable iter X.env x = pure x := by intros; rfl) : GF F (.Assign [.Name x py] (.ListComp elt [⟨tg, iter, ifs, 0⟩] scope pos) spos) i Γ (lcM mi f) := by
  obtain ⟨g, pg, eg⟩ := hg
  refine ⟨_, fun X hX => ?_, evf_lc B hi (g := g) (fun H0 σ S H v d Γ Γ' Q => eg H0 σ S H v d Γ Γ' Q) ht⟩
  have hn := F.hN X hX
  have hk' : X.env.scope.names.lookup x = some .local := by rw [F.hkd X hX]; exact hk
  exact ps_setLc (F.hc hcm X hX) (by rw [hn]; exact F.nd) (by rw [hn]; exact hx) hk' (sw_true (F.hki X hX) hk' hl ha) (cI_ok X hX) (by rw [hn]; exact blk_of (by rw [F.hkd X hX]; exact B.ok)) (fun s H C cl fp => pg _ ⟨X, s, H, C, cl, fp, hX, rfl⟩) (fun s H C cl fp => cP_ok _ ⟨X, s, H, C, cl, fp, hX, rfl⟩) (fun s H C cl fp => cE_ok _ ⟨X, s, H, C, cl, fp, hX, rfl⟩) (hs X hX)
end
section
variable {F : Fm} {Γ : Gam} {a e : Expr} {es : List Expr} {ma m : M D} {pos : Pos}
theorem ev_newF {S1 H1 H : Hp} {G : GG} {E : XK} {H0 : Hp} {Q : VK} {vs : List V} {ds : List D} {S : Hp} (g1 : Grow S H S1 H1) (r : Reps G S1 vs ds) (k : Po G E S1 H1 (fun d S' H' => ∀ p, S' p = none → H p = none → OwnAt G H0 S' H' p d → Q (.ref p) H') (.ok (.lst ds))) : ∀ q, H1 q = none → Q (.ref q) (upd H1 q (.lst vs)) := fun q hq =>
  k S1 _ (Grow.newOwn g1.sub hq) q (sub_none g1.sub hq) (g1.h.free hq) ⟨vs, upd_same, r⟩
theorem fe_list {p : Pos} {ml : M (List D)} (hg : F.kd.lookup ("list" : Str) = some NameKind.globalImplicit) (hm : F.G.mg "list" = none) (ha : AM F (e :: es) Γ ml)
    (he : ∀ X, F.Xs X → starEach (e :: es) X.env = (false, eval e X.env) :: starEach es X.env := by intros; rfl) (hpl : ∀ X, F.Xs X → (backTo pos (starEach es X.env)).any (·.1) = false := by intros; rfl) : FE F (.Call (.Name "list" p) (e :: es) [] pos) Γ (b1 pyList ml) := by
  obtain ⟨t, q, g⟩ := ha
  refine ⟨tCB (fun xs H Q => ∃ p ys, xs = [.ref p] ∧ (SqL F.G.K H p ys ∨ SqT F.G.K H p ys) ∧ ∀ l, H l = none → Q (.ref l) (upd H l (.lst ys))) t, fun X hX => (by
    have h := pe_callTy (X := X) (p := p) call_list_of (F.gl X hX hg) (by rw [(F.hX X hX).2.2.2.1]; exact hm) (by decide +kernel) (q X hX) (by decide) (by decide) (he X hX) (hpl X hX)
    rw [F.hK X hX] at h
    exact h), fun H0 σ S H Q hh po => g H0 σ S H _ hh ((Po.bind po).imp fun ds S1 H1 g1 k vs r => ?_)⟩
  match ds, r, k with
  | [.lst xs], r, k =>
    obtain ⟨v, rfl, h⟩ := reps1 r
    cases h with
    | lst h r => exact ⟨_, _, rfl, .inl (SqL.of (g1.sub _ _ h)), ev_newF g1 r k⟩
  | [.tup xs], r, k =>
    obtain ⟨v, rfl, h⟩ := reps1 r
    cases h with
    | tup h r => exact ⟨_, _, rfl, .inr (SqT.of (g1.sub _ _ h)), ev_newF g1 r k⟩
theorem fe_listRg {p p1 pos1 : Pos} (hcm : F.cm = true) (hg : F.kd.lookup ("list" : Str) = some NameKind.globalImplicit) (hm : F.G.mg "list" = none) (hg1 : F.kd.lookup ("range" : Str) = some NameKind.globalImplicit) (hm1 : F.G.mg "range" = none) (ha : EM F a Γ ma)
    (na : ∀ X, F.Xs X → starEach [a] X.env = (false, eval a X.env) :: starEach [] X.env := by intros; rfl) (na1 : ∀ X, F.Xs X → starEach [.Call (.Name "range" p1) [a] [] pos1] X.env = (false, eval (.Call (.Name "range" p1) [a] [] pos1) X.env) :: starEach [] X.env := by intros; rfl) :
    FE F (.Call (.Name "list" p) [.Call (.Name "range" p1) [a] [] pos1] [] pos) Γ (b1 pyListRg ma) := by
  obtain ⟨ta, pa, ea⟩ := ha
  refine ⟨tLstRg (tRg1 ta), fun X hX => pe_listRg (F.hc hcm X hX) (F.gl X hX hg) (by rw [(F.hX X hX).2.2.2.1]; exact hm) (prg_1 (F.gl X hX hg1) (by rw [(F.hX X hX).2.2.2.1]; exact hm1) (pa X hX) (na X hX)) (na1 X hX), fun H0 σ S H Q hh po => ?_⟩
  refine ea H0 σ S H _ hh ((Po.bind po).imp fun d S1 H1 g1 k v r => ?_)
  cases d with
  | int n =>
    obtain ⟨hl, k⟩ := Po.gate (m := M.ok (D.lst (rangeD 0 n.toNat))) k
    cases r
    exact ⟨n, rfl, ⟨by decide, by decide, by omega, by omega, by omega⟩, ev_newF g1 reps_rg k⟩
  | _ => exact False.elim k
end

/-! ### defs that return a new list -/
/-- nothing in it that one can change -/
def firmD : D → Bool
  | .non => true | .bl _ => true | .int _ => true | .str _ => true
  | .tup xs => firmDs xs
  | _ => false
where firmDs : List D → Bool
  | [] => true
  | d :: ds => firmD d && firmDs ds
def lstM (d : D) : M D := match d with
  | .lst xs => .ok (.lst xs)
  | _ => .stk
def ownM (d : D) : M D := match d with
  | .lst xs => if firmD.firmDs xs = true then .ok (.lst xs) else .stk
  | _ => .stk
def minus (S : Hp) (p : Addr) : Hp := fun a => if a = p then none else S a
theorem minus_ne {S : Hp} {p a : Addr} (h : a ≠ p) : minus S p a = S a := if_neg h
theorem minus_same {S : Hp} {p : Addr} : minus S p p = none := if_pos rfl
mutual
theorem rep_minus {G : GG} {S : Hp} {p : Addr} {us : List V} (hp : S p = some (.lst us)) : ∀ {d : D} {v : V}, firmD d = true → Rep G S v d → Rep G (minus S p) v d
  | .non, _, _, .non => .non
  | .bl b, _, _, .bl _ => .bl b
  | .int b, _, _, .int _ => .int b
  | .str b, _, _, .str _ => .str b
  | .tup xs, _, h, .tup e r => by
    refine .tup ?_ (reps_minus hp (by simpa [firmD] using h) r)
    rw [minus_ne]
    · exact e
    · intro z
      rw [z, hp] at e
      cases e
  | .lst _, _, h, _ => by simp [firmD] at h
  | .dct _, _, h, _ => by simp [firmD] at h
  | .dks _, _, h, _ => by simp [firmD] at h
  | .obj _ _, _, h, _ => by simp [firmD] at h
  | .slf _ _ _, _, h, _ => by simp [firmD] at h
  | .scr _, _, h, _ => by simp [firmD] at h
theorem reps_minus {G : GG} {S : Hp} {p : Addr} {us : List V} (hp : S p = some (.lst us)) : ∀ {ds : List D} {vs : List V}, firmD.firmDs ds = true → Reps G S vs ds → Reps G (minus S p) vs ds
  | [], _, _, .nil => .nil
  | d :: ds, _, h, .cons r rs => by
    have h : firmD d = true ∧ firmD.firmDs ds = true := by simpa [firmD.firmDs] using h
    exact .cons (rep_minus hp h.1 r) (reps_minus hp h.2 rs)
end
def spN (G : GG) (m : List D → M D) : Sp := fun vs H Q E => ∃ S ds, Ex S H ∧ Reps G S vs ds ∧ Po G E S H (fun d S' H' => ∀ v, Rep G S' v d → NewV H v → Q v H') (m ds)
def KnN (G : GG) (k : Nat) (x : Str) (m : List D → M D) : Prop := ∃ f fd ps j, j ≤ k ∧ FnOk G.P G.w G.K G.mg G.base (L2.CX G.P G.w) j f fd ps (spN G m) ∧ G.mg x = some (.ref f) ∧ PySem.W.keepIn G.K (.ref f) = true ∧ Binds G.K fd ps []
theorem KnN.mono {G : GG} {j k : Nat} {x : Str} {m : List D → M D} (h : KnN G j x m) (l : j ≤ k) : KnN G k x m := by
  obtain ⟨f, fd, ps, i, hi, r⟩ := h
  exact ⟨f, fd, ps, i, Nat.le_trans hi l, r⟩
def mkFN (F : Fm) : Fm := { F with fr := true }
theorem fn_okN {G : GG} {name qual : Str} {st : Stmt} {f : Addr} {fd : FuncData} {N ps : List Str} {k : Nat} {m : List D → M D} (V : List Bool) (kd : List (Str × NameKind)) (Fn : Fun G.K name qual st f fd) (Sc : FnScope N ps (defScope st))
    (hv : visL N V kd = true) (hkd : (defScope st).names = kd) (har : ∀ ds, m ds ≠ .stk → ds.length = ps.length)
    (hB : ∀ cdv A outer s H E hr ds, ds.length = ps.length → ∃ c : Ctl Unit Unit, m ds = c.toM ∧ c.noNx ∧ BM (mkFN (mkF G Sc V kd hv hkd k qual f cdv A outer s H E hr)) (defBody st) (ds.map Sl.val ++ List.replicate (N.length - ds.length) Sl.unk) (c.out (fun _ => []) (fun _ => List.replicate N.length Sl.unk))) :
    FnOk G.P G.w G.K G.mg G.base (L2.CX G.P G.w) (k + 1) f fd ps (spN G m) := by
  have hpl : ps.length ≤ N.length := by have := congrArg List.length Sc.pre; rw [List.length_take] at this; omega
  have len : ∀ vs H Q E, spN G m vs H Q E → ∃ ds : List D, vs.length = ds.length ∧ m ds ≠ .stk := fun vs H Q E h => by
    obtain ⟨S, ds, e, r, p⟩ := h
    exact ⟨ds, r.length, fun z => by rw [z] at p; exact p⟩
  refine Fun.okX Fn Sc (fun vs H Q E h => ?_) (fun cdv A outer s H vs Q E hr h => ?_)
  · obtain ⟨ds, h1, h2⟩ := len vs H Q E h
    exact h1.trans (har ds h2)
  · obtain ⟨S, ds, e, r, p⟩ := h
    have hl : ds.length = ps.length := har ds fun z => by rw [z] at p; exact p
    obtain ⟨c, hc, hx, t, ht, d⟩ := hB cdv A outer s H E hr ds hl
    refine ⟨t, ht _ rfl, ?_⟩
    refine d S H _ (L2.start N vs) S H (Grow.refl e) (starts e r (by rw [r.length, hl]; exact hpl)) ?_
    rw [hc] at p
    cases c with
    | stk => exact p
    | exn x u => exact fun cls dd σ S' H' g _ rx => p cls dd S' H' g rx
    | ret d => exact fun v S' H' g rv nw => p S' H' g v rv (nw rfl)
    | nx u => exact absurd rfl (hx u)
section
variable {F : Fm} {Γ : Gam} {X S : Type} {fx : X → Gam} {fs : S → Gam} {x0 : X} {a e : Expr} {es : List Expr} {ma m : M D} {pos : Pos}
/-- return e, e's value a new list -/
theorem bm_retF {he : FE F e Γ m} (w : Weak Γ (fx x0)) : BM F [.Return (some e) pos] Γ (((m.bind lstM).bindC x0 Ctl.ret : Ctl X S).out fx fs) := by
  obtain ⟨t, p, q⟩ := he
  refine ⟨tRet t, fun X hX => pss_one (ps_ret (p X hX)), fun S0 H0 Dn σ S H g hh po => ?_⟩
  refine q H0 σ S H _ hh (Po.bind ((opo_bind (m := m.bind lstM) g hh w po)) |>.imp fun d S1 H1 gg k p hS hH oa => ?_)
  cases d with
  | lst xs =>
    obtain ⟨g1, h1, p1⟩ := Po.ok gg.sub k
    obtain ⟨vs, hvs, rs⟩ := oa
    have h0 : H0 p = none := hh.e0.free hH
    refine p1 (.ref p) (upd S1 p (.lst vs)) H1 ⟨g1.s.trans (ex_upd hS), g1.h, fun a u z => ?_, fun r z1 z2 => ?_⟩ (.lst upd_same (rs.mono (ex_upd hS))) fun _ => ⟨p, rfl, h0⟩
    · by_cases e : a = p
      · subst e; rw [upd_same] at z; rw [hvs]; exact z
      · rw [upd_ne e] at z; exact g1.sub a u z
    · rw [upd_ne (fun e => by subst e; exact z1.ne h0)]
      exact g1.sep r z1 z2
  | _ => exact False.elim k
/-- a call of such a def: the list is one's own -/
theorem fe_call {x : Str} {p : Pos} {m : List D → M D} {ml : M (List D)} (kn : KnN F.G F.k x m) (hcm : F.cm = true) (hg : F.kd.lookup x = some .globalImplicit) (ha : AM F (e :: es) Γ ml) (hdb : (x == ("__debug__" : Str)) = false := by decide)
    (he : ∀ X, F.Xs X → starEach (e :: es) X.env = (false, eval e X.env) :: starEach es X.env := by intros; rfl) (hpl : ∀ X, F.Xs X → (backTo pos (starEach es X.env)).any (·.1) = false := by intros; rfl) : FE F (.Call (.Name x p) (e :: es) [] pos) Γ ((b1 m ml).bind ownM) := by
  obtain ⟨t, q, g⟩ := ha
  refine ⟨tCallS (spN F.G m) (WE F.W) t, fun X hX => ?_, fun H0 σ S H Q hh po => ?_⟩
  · obtain ⟨f, fd, ps, j, hj, ok, hm, hk, hb⟩ := kn
    obtain ⟨h1, h2, h3, h4, h5, _⟩ := F.hX X hX
    rw [← h1, ← h2, ← h3, ← h4, ← h5] at ok
    rw [← h4] at hm
    rw [← h3] at hk hb
    exact pe_callS ok ((F.hr hcm X hX).mono hj) (F.gl X hX hg) hm hk hb (fun σ => passAt (F.tk X hX) σ) (q X hX) hdb (he X hX) (hpl X hX)
  · refine g H0 σ S H _ hh (Po.bind (Po.bind po) |>.imp fun ds S1 H1 g1 k vs r => ⟨S1, ds, g1.sub, r, ?_⟩)
    cases hmd : m ds with
    | stk => rw [hmd] at k; exact k
    | exn e => rw [hmd] at k; exact k
    | ok d =>
      rw [hmd] at k
      intro S2 H2 g2 v rv nw
      obtain ⟨pa, rfl, hpa⟩ := nw
      cases d with
      | lst xs =>
        have hS1 : S1 pa = none := sub_none g1.sub hpa
        cases rv with
        | @lst _ us _ h1 rs =>
          have gm : Grow S1 H1 (minus S2 pa) H2 := ⟨fun a u z => by
              rw [minus_ne (fun e => by subst e; rw [hS1] at z; cases z)]
              exact g2.s a u z, g2.h, fun a u z => by
              by_cases e : a = pa
              · subst e; rw [minus_same] at z; cases z
              · rw [minus_ne e] at z; exact g2.sub a u z, fun q z1 z2 => by
              by_cases e : q = pa
              · subst e; exact minus_same
              · rw [minus_ne e]; exact g2.sep q z1 z2⟩
          obtain ⟨hf, k2⟩ := Po.gate (m := M.ok (D.lst xs)) (k (minus S2 pa) H2 gm)
          exact Po.ok gm.sub k2 pa minus_same (g1.h.free hpa) ⟨us, g2.sub _ _ h1, reps_minus h1 hf rs⟩
      | _ => exact False.elim (k S2 H2 g2)
/-- the same as a value -/
theorem em_callN {x : Str} {p : Pos} {m : List D → M D} {ml : M (List D)} (kn : KnN F.G F.k x m) (hcm : F.cm = true) (hg : F.kd.lookup x = some .globalImplicit) (ha : AM F (e :: es) Γ ml) (hdb : (x == ("__debug__" : Str)) = false := by decide)
    (he : ∀ X, F.Xs X → starEach (e :: es) X.env = (false, eval e X.env) :: starEach es X.env := by intros; rfl) (hpl : ∀ X, F.Xs X → (backTo pos (starEach es X.env)).any (·.1) = false := by intros; rfl) : EM F (.Call (.Name x p) (e :: es) [] pos) Γ (b1 m ml) := by
  obtain ⟨t, q, g⟩ := ha
  refine ⟨tCallS (spN F.G m) (WE F.W) t, fun X hX => ?_, fun H0 σ S H Q hh po => ?_⟩
  · obtain ⟨f, fd, ps, j, hj, ok, hm, hk, hb⟩ := kn
    obtain ⟨h1, h2, h3, h4, h5, _⟩ := F.hX X hX
    rw [← h1, ← h2, ← h3, ← h4, ← h5] at ok
    rw [← h4] at hm
    rw [← h3] at hk hb
    exact pe_callS ok ((F.hr hcm X hX).mono hj) (F.gl X hX hg) hm hk hb (fun σ => passAt (F.tk X hX) σ) (q X hX) hdb (he X hX) (hpl X hX)
  · exact g H0 σ S H _ hh (Po.bind po |>.imp fun ds S1 H1 g1 k vs r => ⟨S1, ds, g1.sub, r, k.imp fun d S2 H2 g2 k2 v rv _ => k2 v rv⟩)
end
end Mir
namespace Mir
open PySem PySem.Spec L2
open PyProof.Rows (envOfC)

/-! ### an own exception's __init__ that says super().__init__('..') and keeps one field -/
/-- the context of its body -/
def cxE (P : Program) (w : World) (K : PySem.W.Frag) (mg : Str → Option Value) (base : Heap) (env : Env) (N : List Str) (A : Around) (outer : List Env) (s : Shared) (H : Hp) (E : XK) : Cx where
  prog := P
  w := w
  K := K
  mg := mg
  base := base
  A := A.deeper env
  N := N
  s_0 := s
  H_0 := H
  env := env
  outer := outer
  stack := env :: outer
  ex := []
  calm := true
  fn := fun x => x != ("__class__" : Str)
  pn := []
  xe := fun e s' => wpAny (model P w) (A.deeper env) (leaving env e) (fun _ s2 => L2.CX P w outer H s E e s2) (fun e' s2 => L2.CX P w outer H s E e' s2) s'
def spE (C : Addr) (fl : Str) : Sp := fun vs H Q E => ∃ a v, vs = [.ref a, v] ∧ H a = some (exo a C none) ∧ ∀ dx, H dx = none → dx ≠ a → Q .non (upd (upd H dx (exd dx [(fl, v)])) a (exo a C (some dx)))
/-- what the written part says of the class and its __init__ -/
structure ExI (P : Program) (K : PySem.W.Frag) (C cc cda : Addr) (scope : Scope) (qual par fl : Str) : Prop where
  oex : OexC K C
  fld : PySem.W.findIn K (.ref C) fl = some none
  cod : PySem.W.codeIn K (.ref cda) qual = true
  fil : ∃ ccl cdd ccs, ∃ vs : Array Value, ∃ file tf, K.lookup cda = some ⟨ccl, cdd, .fields vs, ccs⟩ ∧ vs[2]? = some (.str file tf) ∧ ((P.main.file : Str) == file) = true
  cel : ∃ cl cld csl, K.lookup cc = some ⟨cl, cld, .cell (some (.ref C)), csl⟩
  cls : ∃ cd, PySem.W.clsIn K C = some cd ∧ PySem.W.alongIn K "__init__" ((cd.mro.dropWhile (· != .ref C)).drop 1) = some (some (.builtin "ValueError.__init__"))
  sub : PySem.W.mroIn K C (.ref C) = some true
  suv : PySem.W.subIn K (.ref C) (.type "ValueError") = some true
  opq : PySem.W.nsIn K cStatics "thirdparty.any" = some none
  top : (P.main.scope.names.lookup ("super" : Str)).isSome = false
  knd : scope.kind = .function
  sup : scope.names.lookup ("super" : Str) = some .globalImplicit
  clf : scope.names.lookup ("__class__" : Str) = some .free
  slf : scope.names.lookup ("self" : Str) = some .local
  pal : scope.names.lookup par = some .local
  oth : ∀ x, scope.names.lookup x = some .cell ∨ scope.names.lookup x = some .free → x = ("__class__" : Str)
  npa : par ≠ ("self" : Str)
section
variable {P : Program} {w : World} {K : PySem.W.Frag} {mg : Str → Option Value} {base : Heap} {C cc cda f : Addr} {scope : Scope} {qual par fl : Str}
theorem exi_start {A : Around} {outer : List Env} {s : Shared} {H : Hp} {E : XK} {a : Addr} {u : Value} {v : V} {h₀ : Heap} {tk : Nat} (T : ExI P K C cc cda scope qual par fl) (hd : A.handled = none) (e0 : Env0 P w K mg base A outer s H) (rv : RelV v u)
    (hns : h₀.Ns s.heap.objs.size (fun x => [(("self" : Str), Value.ref a), (par, u)].reverse.lookup x)) (hk : ∀ b o, s.heap.get? b = some o → h₀.get? b = some o) :
    Inv (cxE P w K mg base (PySem.W.envX qual scope s.heap.objs.size f (.ref cda) [("__class__", cc)]) ["self", par] A outer s H E) [] [some (.ref a), some v] H { s with heap := h₀, toks := tk } := by
  obtain ⟨cl, cld, csl, hcell⟩ := T.cel
  have cel : ∀ x c, List.lookup x [(("__class__" : Str), cc)] = some c → x = ("__class__" : Str) ∧ c = cc := fun x c q => by
    rw [List.lookup_cons] at q
    by_cases z : x = ("__class__" : Str)
    · subst z
      simp at q
      exact ⟨rfl, q.symm⟩
    · have : (x == ("__class__" : Str)) = false := by simpa using z
      rw [this] at q
      simp at q
  have hcb := e0.mod.kin _ _ hcell
  have hself : ([(("self" : Str), Value.ref a), (par, u)].reverse.lookup ("self" : Str)) = some (.ref a) := by
    show List.lookup _ [(par, u), (("self" : Str), Value.ref a)] = _
    have : (("self" : Str) == par) = false := by simpa using fun z => T.npa z.symm
    rw [List.lookup_cons, this, List.lookup_cons]
    simp
  have hpar : ([(("self" : Str), Value.ref a), (par, u)].reverse.lookup par) = some u := by
    show List.lookup _ [(par, u), (("self" : Str), Value.ref a)] = _
    rw [List.lookup_cons]
    simp
  refine ⟨⟨e0.mod, T.knd, rfl, rfl, Nat.le_refl _, fun x y c h1 h2 => (cel x c h1).1.trans (cel y c h2).1.symm, fun x hx => ?_, fun x c hx h => ?_, fun _ => hd, Around.frames_deeper e0.frames, .inr ⟨rfl, rfl⟩, fun b z => absurd (show b ∈ ([] : List Addr) from z) (by simp), e0.bs, e0.bsz, fun b _ _ z => absurd (show b ∈ ([] : List Addr) from z) (by simp), fun b z => absurd (show b ∈ ([] : List Addr) from z) (by simp), e0.funs, e0.frf⟩,
    rfl, e0.bare, Un.kept hk, ⟨_, hns, fun i x v' h1 h2 h3 => ?_⟩, fun x c h => ?_, e0.hok.fresh (Nat.le_refl _), fun x c h => ?_, fun p hp => absurd (show p ∈ ([] : List (Addr × Obj)) from hp) (by simp), e0.hok.kept hk, rfl⟩
  · have := T.oth x hx
    subst this
    exact ⟨cc, by show List.lookup _ [(("__class__" : Str), cc)] = _; simp⟩
  · have := (cel x c h).1
    subst this
    exact absurd hx (by show ¬(("__class__" : Str) != ("__class__" : Str)) = true; simp)
  · match i, h1, h2 with
    | 0, h1, h2 =>
      cases h1
      cases h2
      exact ⟨_, rfl, .inl ⟨T.slf, hself⟩⟩
    | 1, h1, h2 =>
      cases h1
      cases h2
      exact ⟨_, rv, .inl ⟨T.pal, hpar⟩⟩
    | (n + 2), h1, h2 => cases h1
  · obtain ⟨_, rfl⟩ := cel x c h
    exact ⟨_, _, hk _ _ (e0.bs _ _ hcb).1, rfl⟩
  · obtain ⟨_, rfl⟩ := cel x c h
    exact (e0.bs _ _ hcb).2
/-- the bound __init__ of ValueError, called -/
theorem bound_init {A : Around} {E : Value → Shared → Prop} {h : Heap} {g : Array GenState} {d : Drawn} {t : Nat} {os : OsState} {u e t0 : Addr} {rest : List Value} {Q : Value → Shared → Prop} (T : OexC K C) (X : K.In h) (he : h.get? e = some (PySem.HandSPX.excO C t0)) (hu : h.get? u = some (PySem.W.kxs_mw "ValueError.__init__" e)) (hr : rest.length ≤ sizeLine)
    (hq : ∀ h' t1, (∀ b o, b ≠ e → h.get? b = some o → h'.get? b = some o) → h'.get? e = some (PySem.HandSPX.excO C t1) → Q .none ⟨h', g, d, t, os⟩) : wpAny (model P w) A (call (.ref u) rest) Q E ⟨h, g, d, t, os⟩ := by
  obtain ⟨nm, q, N, bs, bm, sn, sub, ab, col, dd, k0, k1, k2, k3, k5, hC, hbm⟩ := T.cls
  refine wpAny_call (codeAny_of_tree (show wpAny (model P w) A.in1 (callAny (.ref u) ⟨rest, []⟩) _ _ _ from ?_))
  unfold callAny
  refine wpAny_bind (wpAny_load hu ?_)
  simp only [PySem.W.kxs_mw]
  refine PySem.W.KFB.if_so (by decide) (wpAny_bind (PySem.W.check_bound_init F.excBase_ValueError.toExcCallFacts (X _ _ hC) he rfl (wpAny_bind (wpAny_pure (wpAny_pure ⟨plainId_quiet F.excBase_ValueError.init.plain _, codeAny_builtin F.excBase_ValueError.initEntry ?_⟩)))))
  exact PySem.W.exc_init_tree (cls := .ref C) (t0 := t0) (dv := none) (c2 := .none) (c3 := .none) (b4 := .bool false) he hr fun h' k e' t' => hq h' _ k e'
/-- the whole __init__ -/
theorem exi_ok {args : Arguments} {body : List Stmt} {dV kV doc pm ct oc : Value} {an od : Option Addr} {osl : Array (Option Value)} {k : Nat} {p0 p1 p2 p3 p4 p5 p6 p7 p8 p9 : Pos} {msg : Str} {j : Nat} {ar : Arg} {pl : Env → Sem Bool}
    (T : ExI P K C cc cda scope qual par fl) (lk : K.lookup f = some ⟨oc, od, .func (PySem.W.ksFn "__init__" qual args body scope dV kV doc pm an (.ref cda) ct cc), osl⟩) (hsup : mg "super" = none)
    (hbody : body = [.Expr (.Call (.Attribute (.Call (.Name "super" p0) [] [] p1) "__init__" p2) [.Constant (.str msg) j p3] [] p4) p5, .Assign [.Attribute (.Name "self" p6) fl p7] (.Name par p8) p9])
    (hargs : (args.posonlyargs ++ args.args).head? = some ar) (har : ar.arg = ("self" : Str)) (hnc : ∀ x ∈ scope.names, x.2 ≠ .cell) (hco : scope.isCoroutine = false) (hgen : scope.isGenerator = false)
    (hec : ∀ env : Env, eval (.Call (.Attribute (.Call (.Name "super" p0) [] [] p1) "__init__" p2) [.Constant (.str msg) j p3] [] p4) env = (do
      let ov ← attributeBase (.Call (.Name "super" p0) [] [] p1) "__init__" env (eval (.Call (.Name "super" p0) [] [] p1) env)
      standAt p2.atName
      let (f, first) ← holding [ov] (getMethod ov "__init__" (pl env))
      callWith p4 f first (backTo p4 (starEach [.Constant (.str msg) j p3] env)) []))
    (hs1 : ∀ env : Env, swapsWith (.Call (.Attribute (.Call (.Name "super" p0) [] [] p1) "__init__" p2) [.Constant (.str msg) j p3] [] p4) none p5.line env = pure false)
    (hs2 : ∀ env : Env, swapsWith (.Name par p8) (some (.Attribute (.Name "self" p6) fl p7)) p9.line env = pure false)
    (hst : ∀ env : Env, starEach [.Constant (.str msg) j p3] env = (false, eval (.Constant (.str msg) j p3) env) :: starEach [] env) (hin : ∀ L : Addr, interactive (PySem.W.envX qual scope L f (.ref cda) [("__class__", cc)]) = false)
    (hdp : (par == ("__debug__" : Str)) = false) (hcp : (par == ("__classdict__" : Str)) = false) :
    FnOk P w K mg base (L2.CX P w) (k + 1) f (PySem.W.ksFn "__init__" qual args body scope dV kV doc pm an (.ref cda) ct cc) ["self", par] (spE C fl) := by
  subst hbody
  refine ⟨fun vs H Q E h => by obtain ⟨a, v, rfl, _⟩ := h; rfl, fun A outer s H ag us vs Q E hr e0 hb r hsp => ?_⟩
  obtain ⟨a, v, rfl, ha, hq⟩ := hsp
  cases r with
  | @cons _ u0 _ us' ra r' =>
  cases r' with
  | @cons _ u _ us2 rv r2 =>
  cases r2
  obtain rfl : u0 = Value.ref a := ra
  have KX : K.In s.heap := e0.mod.kin.keeps fun b o e => (e0.bs b o e).1
  have lim : s.heap.NoLimit := e0.mod.nolimit.keeps fun b o e => (e0.bs b o e).1
  have hloc : ∀ x ∈ (["self", par] : List Str).zip [Value.ref a, u], scope.names.lookup x.1 = some .local := fun x hx => by
    rcases List.mem_cons.mp hx with rfl | hx
    · exact T.slf
    · rcases List.mem_cons.mp hx with rfl | hx
      · exact T.pal
      · cases hx
  refine ks_codeAny_call_defAt hr.depth (KX _ _ lk) rfl lim (PySem.W.codeRec_of KX T.cod) rfl hb hnc hloc (fun h₀ hns hkeep => ?_) hco hgen T.knd
  have I0 := exi_start (f := f) (E := E) (tk := s.toks + 2) T hr.hd e0 rv hns hkeep
  obtain ⟨clc, cldc, cslc, hcl⟩ := T.cel
  obtain ⟨ccl, cdd, ccs, vsf, file, tf, hcda, hv2, hfile⟩ := T.fil
  obtain ⟨cd, hcd, halong⟩ := T.cls
  have K0 : K.In h₀ := I0.kIn
  refine ks_wpAt_execs_cons (ks_wpAt_Expr_any (ks_wpAt_MethodCall (pl := pl _) ?_ (hec _)) (hin _) (hs1 _))
  refine ks_wpAt_super_base T.sup T.clf (by decide) rfl (K0 _ _ lk) rfl hargs rfl (K0 _ _ hcda) rfl hv2 hfile T.top ?_
  obtain ⟨mb, hmb1, hmb2⟩ := I0.mod.blt
  refine PySem.W.ks_loadName_global T.knd T.sup (Calls.loadGlobal_builtin (I0.mod.glob.keeps I0.bk) hsup (hmb1.keeps I0.bk) ((hmb2 ("super" : Str) (by decide)).trans (by rfl)) ⟨rfl, ?_⟩)
  refine wpAny_loadName_free T.knd T.clf rfl ⟨_, K0 _ _ hcl, rfl⟩ ?_
  refine wpAny_loadName_local T.knd (by show scope.names.lookup ar.arg = _; rw [har]; exact T.slf) hns (v := .ref a) (by
    rw [har]
    show List.lookup _ [(par, u), (("self" : Str), Value.ref a)] = _
    have : (("self" : Str) == par) = false := by simpa using fun z => T.npa z.symm
    rw [List.lookup_cons, this, List.lookup_cons]
    simp) ?_
  obtain ⟨oD, hoD, hdD⟩ : ∃ oD, h₀.get? C = some oD ∧ oD.data = .cls cd := by
    have z := hcd
    unfold PySem.W.clsIn at z
    split at z
    · rename_i ho
      cases z
      exact ⟨_, K0 _ _ ho, rfl⟩
    · cases z
  obtain ⟨t1, hoa⟩ := exo_at I0.hok ha
  refine ks_wpAny_isType_cls hoD hdD ⟨rfl, ?_⟩
  refine ks_wpAny_call_super hoD hdD hoa rfl (fun c e => by cases e) (PySem.W.looks_mroIn K0 T.sub) fun h1 hso k1 => ?_
  have I1 := I0.kept (t' := s.toks + 2) k1
  have K1 : K.In h1 := I1.kIn
  have J : PySem.W.InstAt h1 a _ C none := ⟨k1 _ _ hoa, rfl, rfl, trivial⟩
  refine PySem.W.kxs_getMethod PySem.W.kxs_ValueError hso (PySem.W.looks_opaque K1 T.opq) (l₀ := cd.mro) (fun A' Q' E' s' k' q' => wpAny_bind ((PySem.W.looks_clsIn K1 hcd) A' _ E' s' k' (wpAny_pure q'))) rfl K1 halong
    (J.type.andThen (PySem.W.looks_subIn K1 T.suv)) (PySem.W.ks_ne K1 J hcd) (by decide) ?_
  have I2 := ClX.pin_new (t' := s.toks + 3) I1 (o := PySem.W.kxs_mw "ValueError.__init__" a) (h' := h1.push (PySem.W.kxs_mw "ValueError.__init__" a)) (fun b o e => Heap.get?_push_of_some _ e) (Nat.le_refl _) (Heap.get?_push_at rfl rfl) (fun v e => by cases e)
  have hA := (pa_cons (pe_str (x := msg) (j := j) (pos := p3)) pa_nil (hst _)).run p4 _ _ _ _ (fun vs H' => H' = H ∧ vs.length = 1) I2 ⟨rfl, rfl⟩
  rw [show (cxE P w K mg base (PySem.W.envX qual scope s.heap.objs.size f (.ref cda) [("__class__", cc)]) ["self", par] A outer s H E).env = PySem.W.envX qual scope s.heap.objs.size f (.ref cda) [("__class__", cc)] from rfl, hst] at hA
  show wpAny _ _ (callWith p4 _ [] (backTo p4 (starEach [.Constant (.str msg) j p3] (PySem.W.envX qual scope s.heap.objs.size f (.ref cda) [("__class__", cc)]))) []) _ _ _
  rw [hst]
  refine PySem.W.kxs_callWith (i := "ValueError.__init__") (x := a) (by rfl) (Calls.evalArgs_plain (thn hA fun us3 s3 hs3 => ?_))
  obtain ⟨vs3, H3, I3, r3, rfl, hl3⟩ := hs3
  obtain ⟨t3, ho3⟩ := exo_at I3.hok ha
  have hu3 := ClX.pin_at I3
  refine ⟨hu3, ?_⟩
  obtain ⟨h3, g3, d3, tk3, os3⟩ := s3
  refine bound_init T.oex I3.kIn ho3 hu3 (by show us3.length ≤ _; rw [← Paired.length r3, hl3, sizeLine_eq]; omega) fun h4 t4 k4 hx4 => ?_
  have I4 := (ClX.unpin I3).write (t' := tk3) (x := a) (e := a) (o := exo a C none) (by rw [ha]; exact True.intro) (.inl rfl) k4 ⟨_, hx4⟩ (exo_ok hx4)
  have eu : upd H3 a (exo a C none) = H3 := by
    funext b
    by_cases hb : b = a
    · rw [hb, upd_same, ha]
    · rw [upd_ne hb]
  rw [eu] at I4
  refine wpAt_of_wpAny (thn ((pss_one (ps_ost (pe_var (i := 0) rfl (.inl T.slf) (by decide) (by decide)) (pe_var (i := 1) rfl (.inl T.pal) hdp hcp) (hs2 _))).run [] _ _ _ { nx := fun _ H' => Q .non H', rt := Q } I4
    ⟨v, rfl, .ref a, rfl, a, C, rfl, T.oex, T.fld, .inl ⟨ha, fun dx n ne => hq dx n ne⟩⟩) fun fl5 s5 hs5 => ?_)
  cases fl5 with
  | ret u5 =>
    obtain ⟨v5, σ5, H5, J5, rv5, q5⟩ := hs5
    exact ⟨v5, H5, J5.os, J5.bare, J5.base, J5.hok, rv5, q5⟩
  | next =>
    obtain ⟨σ5, H5, J5, q5⟩ := hs5
    exact ⟨.non, H5, J5.os, J5.bare, J5.base, J5.hok, rfl, q5⟩
  | brk =>
    obtain ⟨_, _, _, q5⟩ := hs5
    exact q5.elim
  | cont =>
    obtain ⟨_, _, _, q5⟩ := hs5
    exact q5.elim
end
end Mir
namespace Mir
open PySem PySem.Spec L2
open PyProof.Rows (envOfC)

section
variable {F : Fm} {Γ : Gam} {X S : Type} {fx : X → Gam} {fs : S → Gam} {x0 : X} {a b c e o : Expr} {es : List Expr} {ma mb mc m mo me : M D} {ml : M (List D)} {pos apos : Pos} {rest : List Stmt}
/-! ### raise X(e), X an own class whose __init__ keeps one field -/
structure ExF (G : GG) (k : Nat) (x : Str) (c : Nat) (fl : Str) : Prop where
  ex : ∃ (C fI : Addr) (fd : FuncData) (par : Str) (j : Nat), j + 1 ≤ k ∧ G.xc c = .ref C ∧ G.mg x = some (.ref C) ∧ OexC G.K C ∧ PySem.W.findIn G.K (.ref C) "__init__" = some (some (.ref fI)) ∧ PySem.W.typeIn G.K (.ref fI) = some (.type "function") ∧
    FnOk G.P G.w G.K G.mg G.base (L2.CX G.P G.w) j fI fd ["self", par] (spE C fl) ∧ Binds G.K fd ["self", par] []
theorem ExF.mono {G : GG} {j k c : Nat} {x fl : Str} (h : ExF G j x c fl) (l : j ≤ k) : ExF G k x c fl := by
  obtain ⟨C, fI, fd, par, i, hi, r⟩ := h.ex
  exact ⟨C, fI, fd, par, i, Nat.le_trans hi l, r⟩
def exnF {X S : Type} (c : Nat) (fl : Str) (x0 : X) : List D → Ctl X S
  | [d] => .exn ⟨c, [(fl, d)]⟩ x0
  | _ => .stk
theorem xd_upd {H : Hp} {a C dx : Addr} {f : Str} {v : V} (ha : H a = none) (hd : H dx = none) (ne : dx ≠ a) :
    upd (del (upd (upd (upd H a (exo a C none)) dx (exd dx [(f, v)])) a (exo a C (some dx))) a) dx (.xd [(f, v)]) = upd H dx (.xd [(f, v)]) := by
  funext b
  by_cases h1 : b = dx
  · subst h1
    rw [upd_same, upd_same]
  · rw [upd_ne h1, upd_ne h1]
    by_cases h2 : b = a
    · subst h2
      rw [del_same, ha]
    · rw [del_ne h2, upd_ne h2, upd_ne h1, upd_ne h2]
theorem bm_raiseF {x fl : Str} {c : Nat} {p p3 : Pos} (K : ExF F.G F.k x c fl) (hcm : F.cm = true) (hg : F.kd.lookup x = some .globalImplicit) (ha : AM F [e] Γ ml) (w : Weak Γ (fx x0)) (hdb : (x == ("__debug__" : Str)) = false := by decide)
    (he : ∀ X, F.Xs X → starEach [e] X.env = (false, eval e X.env) :: starEach [] X.env := by intros; rfl) :
    BM F [.Raise (some (.Call (.Name x p) [e] [] p3)) none pos] Γ ((ml.bindC x0 (exnF c fl x0) : Ctl X S).out fx fs) := by
  obtain ⟨C, fI, fd, par, j, hj, hc, gC, T, iC, tI, ok, hb⟩ := K.ex
  obtain ⟨t, q, g⟩ := ha
  refine ⟨fun _ σ H => tMkO C (spE C fl) [] t σ H fun cls d H' => F.W cls d σ H', fun Y hY => pss_one ?_, fun S0 H0 Dn σ S H gr hh po => ?_⟩
  · obtain ⟨h1, h2, h3, h4, h5, _⟩ := F.hX Y hY
    rw [← h3] at T iC tI
    rw [← h4] at gC
    rw [← h1, ← h2, ← h3, ← h4, ← h5] at ok
    rw [← h3] at hb
    exact ps_raise (F.hc hcm Y hY) (F.tk Y hY) (pmk_oex T iC tI ok ((F.hr hcm Y hY).mono hj) hb .nil (fun pins σ H s u s' _ z => by obtain ⟨_, _, _, _, _, _, _, _, _, _, _, _, z⟩ := z; exact z.elim) (F.gl Y hY hg) gC (q Y hY) hdb (he Y hY) (by rfl))
  · refine g H0 σ S H _ hh ((opo_bind gr hh w po).imp fun ds S1 H1 _ ⟨g1, h1, p1⟩ vs r => ?_)
    match ds, r, p1 with
    | [d], .cons (v := v) rv .nil, p1 =>
      refine ⟨by show 1 ≤ 1000; omega, fun a0 ha0 => ⟨a0, v, rfl, upd_same, fun dx hdx ne => ?_⟩⟩
      have hd1 : H1 dx = none := by rw [upd_ne ne] at hdx; exact hdx
      refine ⟨rfl, dx, [(fl, v)], upd_same, ?_, hd1, ?_⟩
      · rw [upd_ne ne, upd_same]
      · rw [xd_upd ha0 hd1 ne]
        have gn := Grow.new (o := .xd [(fl, v)]) h1.ex hd1
        exact p1 (.ref C) (some dx) σ _ _ (g1.trans gn) ⟨Γ, h1.grow gn, w⟩ ⟨hc.symm, .inr ⟨(fun z => by cases z), dx, _, rfl, upd_same, rfl, .cons (rv.mono gn.s) .nil⟩⟩
    | [], _, p1 => exact False.elim p1
    | _ :: _ :: _, _, p1 => exact False.elim p1

/-! ### e.f of the caught one -/
structure XfK (G : GG) (f : Str) : Prop where
  ex : ∀ c, c < 6 → ∃ C, G.xc c = .ref C ∧ XfC G.K C ∧ PySem.W.findIn G.K (.ref C) f = some none
def exF (f : Str) (e : Exc) : M D := if e.c < 6 then ofOpt (e.fs.lookup f) else .stk
theorem em_xf {a : Addr} {dd : Option Addr} {e : Exc} {f n : Str} {p1 : Pos} (i : Nat) (K : XfK F.G f) (hdd : (e.fs = [] ∧ dd = none) ∨ (e.fs ≠ [] ∧ ∃ d, dd = some d)) (hn : F.N[i]? = some n) (hv : F.V[i]? = some true) (hΓ : Γ[i]? = some (Sl.ref (refK a dd e))) (hd : (n == ("__debug__" : Str)) = false := by decide) (hcd : (n == ("__classdict__" : Str)) = false := by decide) :
    EM (suiteF F a (F.G.xc e.c) dd) (.Attribute (.Name n p1) f pos) Γ (exF f e) := by
  unfold exF
  split
  · rename_i h
    obtain ⟨C, hC, T, hno⟩ := K.ex e.c h
    refine ⟨tXf a (F.G.xc e.c) dd C f (tVar i), fun Z hZ => ?_, fun H0 σ S H Q hh po => ?_⟩
    · obtain ⟨X0, oe, pn, h0, hz, hf, rfl⟩ := hZ
      obtain ⟨h1, h2, h3, h4, h5, h6⟩ := F.hX X0 h0
      exact pe_xf (by rw [h3]; exact T) (by rw [h3]; exact hno) hz hf (pe_var (by show X0.N[i]? = _; rw [h6]; exact hn) (F.vis X0 h0 i n hv hn) hd hcd)
    · obtain ⟨d, hl, k3⟩ := Po.opt0 po
      show ∃ v, σ[i]? = some (some v) ∧ _
      refine ⟨_, (hh.ref i _ hΓ).1, rfl, hC, ?_⟩
      rcases hdd with ⟨z, _⟩ | ⟨_, d1, z⟩
      · rw [z] at hl
        cases hl
      · subst z
        obtain ⟨vs, q, nn, r⟩ := (hh.ref i _ hΓ).2 d1 e.fs rfl
        obtain ⟨v, hv, rv⟩ := lookup_rep nn r hl
        exact ⟨d1, vs, v, rfl, hh.ex _ _ q, hv, k3.ok hh.ex _ rv⟩
  · exact em_stk
end

/-! ### o >> (..), o an instance -/
structure ShrF (K : PySem.W.Frag) (C : Addr) : Prop where
  sf : PySem.W.selfFirst K C = true
  rr : PySem.W.findIn K (.ref C) "__rrshift__" = some none
  t1 : PySem.W.findIn K (.type "tuple") "__rshift__" = some none
  t2 : PySem.W.findIn K (.type "tuple") "__rrshift__" = some none
  sb : PySem.W.subIn K (.type "tuple") (.ref C) = some false
def shrB (K : PySem.W.Frag) (C : Addr) : Bool := PySem.W.selfFirst K C && (decide (PySem.W.findIn K (.ref C) "__rrshift__" = some none) && (decide (PySem.W.findIn K (.type "tuple") "__rshift__" = some none) && (decide (PySem.W.findIn K (.type "tuple") "__rrshift__" = some none) && decide (PySem.W.subIn K (.type "tuple") (.ref C) = some false))))
theorem shrB_ok {K : PySem.W.Frag} {C : Addr} (h : shrB K C = true) : ShrF K C := by
  simp only [shrB, Bool.and_eq_true, decide_eq_true_eq] at h
  exact ⟨h.1, h.2.1, h.2.2.1, h.2.2.2.1, h.2.2.2.2⟩
section
open PySem.W
theorem shr_tup {prog : Program} {w : World} {A : Around} {E : Value → Shared → Prop} {s : Shared} {K : Frag} {x C f : Addr} {ox : Obj} {od : Option Obj} {b : Value} {Q : Value → Shared → Prop} (X : K.In s.heap) (I : InstAt s.heap x ox C od) (hb : Looks (model prog w) s.heap (typeOf b) (.type "tuple")) (Z : ShrF K C)
    (hs : findIn K (.ref C) "__rshift__" = some (some (.ref f))) (hf : isFn K (.ref f) = true) (h : wpAny (model prog w) A (call (.ref f) [.ref x, b]) (CmpBack Q) E s) : wpAny (model prog w) A (binaryOp .RShift (.ref x) b) Q E s := by
  obtain ⟨cd, rest, hcd, hm⟩ := ksp_first Z.sf
  have e1 : PySem.dunder "rshift" = ("__rshift__" : Str) := by rfl
  have e2 : dunderR "rshift" = ("__rrshift__" : Str) := by rfl
  have go := ksp_try (name := PySem.dunder "rshift") X I (by rw [e1]; exact hs) hf h
  have m0 := fills_K (M := model prog w) (nm := "rshift") X hcd hm (by rw [e1]; exact hs)
  have m1 := ksp_fillsT (M := model prog w) (T := "tuple") (nm := "rshift") (fo := none) (ro := none) X (by rw [e1]; exact Z.t1) (by rw [e2]; exact Z.t2)
  have m2 := ksp_inPy (M := model prog w) (nm := "rshift") X (by rw [e1]; exact hs) (by rw [e2]; exact Z.rr) (.inl rfl)
  have m3 := I.type (M := model prog w)
  obtain ⟨hp, gg, dd, tt, os⟩ := s
  have n0 : (Value.ref C == Value.type "tuple") = false := rfl
  simp only [binaryOp, show Operator.info .RShift = (">>", "rshift") from rfl]
  refine wpAny_holding (wpAny_bind ?_)
  unfold binaryOp1
  refine wpAny_bind (m3.at (wpAny_bind (hb.at (wpAny_bind (m0.at ?_)))))
  simp only [n0, Bool.false_eq_true, if_false]
  ksp_lk
  refine thn go fun r s' z => ?_
  obtain ⟨v, rfl, q⟩ := z
  ksp_lk
  exact q
end
section
variable {F : Fm} {Γ : Gam} {a b : Expr} {ma mb : M D} {pos : Pos}
structure ShrK (G : GG) (c : Nat) : Prop where
  f : ShrF G.K (G.ca c)
def shrO (c : Nat) (m : List D → M D) (x y : D) : M D := match x, y with
  | .obj c1 fs, .tup ys => if c1 = c then m [.obj c1 fs, .tup ys] else .stk
  | _, _ => .stk
def rShrO (G : GG) (c : Nat) (m : List D → M D) (W : WX) : L2.St → R2 := fun σ x y H Q => ∃ a dx fs b ys, x = .ref a ∧ y = .ref b ∧ H a = some (.ins (G.ca c) dx fs) ∧ H b = some (.tup ys) ∧ spM G m [x, y] H Q (WE W σ)
theorem rms_shrO {c : Nat} {m : List D → M D} : RMS F (rShrO F.G c m F.W) (shrO c m) := by
  intro x y vx vy σ S H Q ex rx ry p
  cases x with
  | obj c1 fs =>
    cases y with
    | tup ys =>
      obtain ⟨h1, q⟩ := Po.gate (m := m [.obj c1 fs, .tup ys]) p
      subst h1
      cases rx with
      | obj x1 x2 n r =>
        cases ry with
        | tup y1 r' => exact ⟨_, _, _, _, _, rfl, rfl, ex _ _ x1, ex _ _ y1, S, [.obj _ fs, .tup ys], ex, .cons (.obj x1 x2 n r) (.cons (.tup y1 r') .nil), q⟩
    | _ => exact False.elim p
  | _ => exact False.elim p
theorem ops_shrO {c : Nat} {m : List D → M D} (K : DunK F.G F.k c "__rshift__" m) (Z : ShrK F.G c) (hcm : F.cm = true) (X : Cx) (hX : F.Xs X) : OpS X (binaryOp .RShift) (rShrO F.G c m F.W) := by
  intro pins s σ H x y v u Q I rx ry ⟨a', dx, fs', b', ys, e1, e2, h1', h2', q⟩
  obtain ⟨f, fd, ps, j, hj, ok, h1, h2, h3, h4⟩ := K.at (k := 0) X hX
  subst e1
  subst e2
  obtain rfl : v = Value.ref a' := rx
  obtain rfl : u = Value.ref b' := ry
  obtain ⟨ox, od, J⟩ := ins_J I h1'
  obtain ⟨_, its, _, p⟩ : ys.length ≤ sizeLine ∧ ∃ its : List Value, Vals ys its ∧ _ := I.hok b' _ h2'
  have lk := PySem.W.kitAt_ty (model X.prog X.w) s.heap (a := b') (T := "tuple") (by obtain ⟨o, ho, hc, _⟩ := p; exact ⟨o, ho, hc⟩)
  have Z' : ShrF X.K (F.G.ca c) := by rw [F.hK X hX]; exact Z.f
  refine shr_tup I.kIn J lk Z' h1 h2 ?_
  refine thn (call_atS (us := [.ref a', .ref b']) (ws := [.ref a', .ref b']) ok h4 ((F.hr hcm X hX).mono (Nat.le_of_succ_le hj)) I.env0 (passAt (F.tk X hX) σ) I (.cons rfl (.cons rfl .nil)) q) fun w s' z => ?_
  obtain ⟨z', H', I', rz, qz⟩ := z
  exact SlX.cmpback rz ⟨z', H', I', rz, qz⟩
theorem em_shrO {c : Nat} {m : List D → M D} (K : DunK F.G F.k c "__rshift__" m) (Z : ShrK F.G c) (hcm : F.cm = true) (ha : EM F a Γ ma) (hb : EM F b Γ mb) : EM F (.BinOp a .RShift b pos) Γ (b2 (shrO c m) ma mb) :=
  em_opS (fun X hX => ops_shrO K Z hcm X hX) rms_shrO ha hb
end
end Mir
namespace Mir
open PySem PySem.Spec L2
open PyProof.Rows (envOfC)

/-! ### {'..': '..', ..} -/
inductive CDisp : List (Option Expr) → List Expr → List (Str × Str) → Prop
  | nil : CDisp [] [] []
  | cons {k v : Str} {j j' : Nat} {p p' : Pos} {ks : List (Option Expr)} {vs : List Expr} {l : List (Str × Str)} (h : CDisp ks vs l) : CDisp (some (.Constant (.str k) j p) :: ks) (.Constant (.str v) j' p' :: vs) ((k, v) :: l)
def cTrs (l : List (Str × Str)) : List (TE × TE) := l.map fun q => (tC (.str q.1), tC (.str q.2))
def cK (l : List (Str × Str)) : List (Key × V) := l.map fun q => (.inr q.1, .str q.2)
def cD (l : List (Str × Str)) : List (Key × D) := l.map fun q => (.inr q.1, .str q.2)
theorem CDisp.pps {X : Cx} {pos : Pos} {ks : List (Option Expr)} {vs : List Expr} {l : List (Str × Str)} (h : CDisp ks vs l) : PPs X pos ks vs (cTrs l) := by
  induction h with
  | nil => exact pps_nil
  | cons _ ih => exact pps_cons pe_str pe_str ih
theorem CDisp.all {ks : List (Option Expr)} {vs : List Expr} {l : List (Str × Str)} (h : CDisp ks vs l) : ks.all (·.isSome) = true ∧ ks.length = vs.length ∧ ks.length = l.length := by
  induction h with
  | nil => exact ⟨rfl, rfl, rfl⟩
  | cons _ ih => exact ⟨by simpa using ih.1, by simpa using ih.2.1, by simpa using ih.2.2⟩
theorem tPairs_c {σ : L2.St} {H : Hp} {Q : List (V × V) → Hp → Prop} : ∀ {l : List (Str × Str)}, Q ((cK l).map fun kv => (kV kv.1, kv.2)) H → tPairs (cTrs l) σ H Q
  | [], h => h
  | q :: l, h => tPairs_c (l := l) (Q := fun ps H3 => Q ((.str q.1, .str q.2) :: ps) H3) h
theorem reps_cD {G : GG} {S : Hp} : ∀ {l : List (Str × Str)}, Reps G S ((cK l).map (·.2)) ((cD l).map (·.2))
  | [] => .nil
  | _ :: l => .cons (.str _) (reps_cD (l := l))
section
variable {F : Fm} {Γ : Gam} {a b : Expr} {ma mb : M D} {pos : Pos}
theorem em_disp {ks : List (Option Expr)} {vs : List Expr} {l : List (Str × Str)} (h : CDisp ks vs l) (h0 : ks ≠ []) (h15 : ks.length ≤ 15) (hm : mergeK [] (cK l) = cK l) : EM F (.Dict ks vs pos) Γ (.ok (.dks (cD l))) := by
  refine ⟨tDisp (cTrs l), fun X hX => pe_disp h.pps h.all.1 h.all.2.1 h0 h15, fun H0 σ S H Q hh po => fun p hp => tPairs_c ⟨upd_same, cK l, rfl, ?_, ?_⟩⟩
  · show (cK l).length ≤ 15
    unfold cK
    rw [List.length_map, ← h.all.2.2]
    exact h15
  · have e : upd (upd H p (.dK [])) p (.dK (mergeK [] (cK l))) = upd H p (.dK (cK l)) := by
      funext c
      by_cases hc : c = p
      · subst hc
        rw [upd_same, upd_same, hm]
      · rw [upd_ne hc, upd_ne hc, upd_ne hc]
    rw [e]
    have g := Grow.new (o := .dK (cK l)) hh.ex hp
    refine po _ _ g _ (.dks (.inl upd_same) ?_ ?_)
    · unfold cK cD
      rw [List.map_map, List.map_map]
      rfl
    · exact reps_cD
end
end Mir
namespace Mir
open PySem PySem.Spec L2
open PyProof.Rows (envOfC)

/-! ### what the written part must say of an own exception with a field -/
def filB (K : PySem.W.Frag) (cda : Addr) (file : Str) : Bool := match K.lookup cda with
  | some o => (match o.data with
    | .fields vs => (match (vs[2]? : Option Value) with
      | some (Value.str x _) => file == x
      | _ => false)
    | _ => false)
  | none => false
def celB (K : PySem.W.Frag) (cc C : Addr) : Bool := match K.lookup cc with
  | some o => (match o.data with
    | .cell (some (.ref y)) => decide (y = C)
    | _ => false)
  | none => false
def supB (K : PySem.W.Frag) (C : Addr) : Bool := match PySem.W.clsIn K C with
  | some cd => decide (PySem.W.alongIn K "__init__" ((cd.mro.dropWhile (· != .ref C)).drop 1) = some (some (.builtin "ValueError.__init__")))
  | none => false
def exiB (K : PySem.W.Frag) (file : Str) (C cc cda fI : Addr) (qual fl : Str) : Bool :=
  filB K cda file && celB K cc C && supB K C && PySem.W.codeIn K (.ref cda) qual && PySem.W.keepIn K (.ref C) &&
  decide (PySem.W.findIn K (.ref C) fl = some none) && decide (PySem.W.mroIn K C (.ref C) = some true) && decide (PySem.W.subIn K (.ref C) (.type "ValueError") = some true) &&
  decide (PySem.W.nsIn K cStatics "thirdparty.any" = some none) && decide (PySem.W.findIn K (.ref C) "__setattr__" = some (some (.builtin "object.__setattr__"))) &&
  decide (PySem.W.subIn K (.ref C) (.type "BaseException") = some true) && decide (PySem.W.typeIn K (.ref C) = some (.type "type")) &&
  decide (PySem.W.findIn K (.ref C) "__init__" = some (some (.ref fI))) && decide (PySem.W.typeIn K (.ref fI) = some (.type "function"))
/-- what the text of its __init__ must say -/
def escB (sc : Scope) (par : Str) : Bool := decide (sc.names.lookup ("super" : Str) = some .globalImplicit) && decide (sc.names.lookup ("__class__" : Str) = some .free) && decide (sc.names.lookup ("self" : Str) = some .local) && decide (sc.names.lookup par = some .local) &&
  (sc.names.all fun x => decide (x.2 ≠ .cell) && (decide (x.2 ≠ .free) || decide (x.1 = ("__class__" : Str)))) && decide (par ≠ ("self" : Str)) && !sc.isCoroutine && !sc.isGenerator && decide (sc.kind = .function)
theorem look_mem {l : List (Str × NameKind)} {x : Str} {k : NameKind} (h : l.lookup x = some k) : (x, k) ∈ l := by
  induction l with
  | nil => cases h
  | cons p l ih =>
    obtain ⟨y, q⟩ := p
    rw [List.lookup_cons] at h
    by_cases z : x = y
    · subst z
      simp at h
      subst h
      exact List.mem_cons_self
    · rw [show (x == y) = false by simpa using z] at h
      exact List.mem_cons_of_mem _ (ih h)
theorem exF_mk {G : GG} {x : Str} {c : Nat} {C cc cda fI N : Addr} {qual par fl msg nm q : Str} {args : Arguments} {body : List Stmt} {sc : Scope} {dV kV doc pm ct oc : Value} {an od : Option Addr} {osl : Array (Option Value)} {p0 p1 p2 p3 p4 p5 p6 p7 p8 p9 : Pos} {j : Nat} {ar : Arg} {pl : Env → Sem Bool}
    {bs bm sub : List Value} {sn : List Str} {ab : Bool} {col : Option Bool} {dd : Option Addr} {k0 k1 k2 k3 k5 : Option Value}
    (hC : G.xc c = .ref C) (hm : G.mg x = some (.ref C)) (ol : G.K.lookup C = some (excClassObj nm q C N bs bm true sn sub ab col dd k0 k1 k2 k3 k5 "ValueError.__new__")) (rv : PySem.HandSPX.refsVE bm = true) (eb : exiB G.K G.P.main.file C cc cda fI qual fl = true)
    (lk : G.K.lookup fI = some ⟨oc, od, .func (PySem.W.ksFn "__init__" qual args body sc dV kV doc pm an (.ref cda) ct cc), osl⟩) (hsup : G.mg "super" = none) (top : (G.P.main.scope.names.lookup ("super" : Str)).isSome = false) (hsc : escB sc par = true)
    (hbody : body = [.Expr (.Call (.Attribute (.Call (.Name "super" p0) [] [] p1) "__init__" p2) [.Constant (.str msg) j p3] [] p4) p5, .Assign [.Attribute (.Name "self" p6) fl p7] (.Name par p8) p9])
    (hargs : (args.posonlyargs ++ args.args).head? = some ar) (har : ar.arg = ("self" : Str))
    (hec : ∀ env : Env, eval (.Call (.Attribute (.Call (.Name "super" p0) [] [] p1) "__init__" p2) [.Constant (.str msg) j p3] [] p4) env = (do
      let ov ← attributeBase (.Call (.Name "super" p0) [] [] p1) "__init__" env (eval (.Call (.Name "super" p0) [] [] p1) env)
      standAt p2.atName
      let (f, first) ← holding [ov] (getMethod ov "__init__" (pl env))
      callWith p4 f first (backTo p4 (starEach [.Constant (.str msg) j p3] env)) []))
    (hs1 : ∀ env : Env, swapsWith (.Call (.Attribute (.Call (.Name "super" p0) [] [] p1) "__init__" p2) [.Constant (.str msg) j p3] [] p4) none p5.line env = pure false)
    (hs2 : ∀ env : Env, swapsWith (.Name par p8) (some (.Attribute (.Name "self" p6) fl p7)) p9.line env = pure false)
    (hst : ∀ env : Env, starEach [.Constant (.str msg) j p3] env = (false, eval (.Constant (.str msg) j p3) env) :: starEach [] env) (hin : ∀ L : Addr, interactive (PySem.W.envX qual sc L fI (.ref cda) [("__class__", cc)]) = false)
    (hdp : (par == ("__debug__" : Str)) = false) (hcp : (par == ("__classdict__" : Str)) = false) (hb : Binds G.K (PySem.W.ksFn "__init__" qual args body sc dV kV doc pm an (.ref cda) ct cc) ["self", par] []) : ExF G 2 x c fl := by
  simp only [exiB, Bool.and_eq_true, decide_eq_true_eq] at eb
  obtain ⟨⟨⟨⟨⟨⟨⟨⟨⟨⟨⟨⟨⟨e1, e2⟩, e3⟩, e4⟩, e5⟩, e6⟩, e7⟩, e8⟩, e9⟩, e10⟩, e11⟩, e12⟩, e13⟩, e14⟩ := eb
  simp only [escB, Bool.and_eq_true, decide_eq_true_eq, Bool.not_eq_true', List.all_eq_true, Bool.or_eq_true] at hsc
  obtain ⟨⟨⟨⟨⟨⟨⟨⟨s1, s2⟩, s3⟩, s4⟩, s5⟩, s6⟩, s7⟩, s8⟩, s9⟩ := hsc
  have T : ExI G.P G.K C cc cda sc qual par fl := {
    oex := { cls := ⟨nm, q, N, bs, bm, sn, sub, ab, col, dd, k0, k1, k2, k3, k5, ol, rv⟩, sa := e10, exC := e11, tyC := e12, kC := e5 }
    fld := e6
    cod := e4
    fil := by
      unfold filB at e1
      split at e1
      · rename_i o ho
        obtain ⟨o1, o2, o3, o4⟩ := o
        dsimp only at e1
        split at e1
        · rename_i vs
          split at e1
          · rename_i y t hy
            exact ⟨_, _, _, _, _, _, ho, hy, e1⟩
          · cases e1
        · cases e1
      · cases e1
    cel := by
      unfold celB at e2
      split at e2
      · rename_i o ho
        obtain ⟨o1, o2, o3, o4⟩ := o
        dsimp only at e2
        split at e2
        · rename_i y
          obtain rfl := of_decide_eq_true e2
          exact ⟨_, _, _, ho⟩
        · cases e2
      · cases e2
    cls := by
      unfold supB at e3
      split at e3
      · rename_i cd hcd
        exact ⟨cd, hcd, of_decide_eq_true e3⟩
      · cases e3
    sub := e7
    suv := e8
    opq := e9
    top := top
    knd := s9
    sup := s1
    clf := s2
    slf := s3
    pal := s4
    oth := fun y hy => by
      rcases hy with h | h
      · exact absurd rfl (s5 _ (look_mem h)).1
      · exact (s5 _ (look_mem h)).2.elim (fun z => absurd rfl z) id
    npa := s6 }
  exact ⟨C, fI, _, par, 1, by decide, hC, hm, T.oex, e13, e14, exi_ok (k := 0) T lk hsup hbody hargs har (fun y hy => (s5 y hy).1) s7 s8 hec hs1 hs2 hst hin hdp hcp, hb⟩

/-! ### e.f -/
def xfkB (K : PySem.W.Frag) (C : Addr) (f : Str) : Bool := xfB K C && decide (PySem.W.findIn K (.ref C) f = some none)
theorem xfkB_ok {K : PySem.W.Frag} {C : Addr} {f : Str} (h : xfkB K C f = true) : XfC K C ∧ PySem.W.findIn K (.ref C) f = some none := by
  obtain ⟨a, b⟩ := Bool.and_eq_true_iff.mp h
  exact ⟨xfB_ok a, of_decide_eq_true b⟩
end Mir
set_option maxHeartbeats 2000000
namespace Mir
open PySem PySem.Spec L2
open PyProof.Rows (envOfC)

/-! ### several except clauses, each with the one name n (slot i) -/
def goneE (i : Nat) (D : Ends) : Ends := ⟨fun σ' H' => D.nx (σ'.set i none) H', D.rt, fun σ' H' => D.bk (σ'.set i none) H', fun σ' H' => D.ct (σ'.set i none) H'⟩
abbrev SuT := Addr → Value → Option Addr → TS
def wClauses (K : PySem.W.Frag) (i : Nat) (out : WX) (D : Ends) : List (Value × SuT) → WX
  | [] => out
  | (cv, su) :: more => fun cls d σ H => ∃ yes, PySem.W.exmOne K cls cv = some yes ∧ (yes = true → ∀ p, H p = none → su p cls d (goneE i D) (σ.set i (some (.ref p))) H) ∧ (yes = false → wClauses K i out D more cls d σ H)
inductive Clauses (Y : Cx) (n : Str) : List ExceptHandler → List (Value × SuT) → Prop
  | nil : Clauses Y n [] []
  | cons {y : Str} {cv : Value} {su : SuT} {st : Stmt} {sts : List Stmt} {py pq : Pos} {hl : List ExceptHandler} {cl : List (Value × SuT)} (nm : Names Y y cv)
      (ok : ∀ p ob cls d pn, Zc cls d ob → (∃ v, ob.data = .fields v) → PSs (Y.suite p ((p, ob) :: pn)) (st :: sts) (su p cls d)) (more : Clauses Y n hl cl) : Clauses Y n (.ExceptHandler (some (.Name y py)) (some n) (st :: sts) pq :: hl) ((cv, su) :: cl)
section
variable {Y : Cx} {n : Str} {i : Nat} {body : List Stmt} {h1 : ExceptHandler} {hl : List ExceptHandler} {cl : List (Value × SuT)} {pos : Pos} {tb : WX → TS} {out : WX}
theorem ps_clauses (e1 : Y.stack = Y.env :: Y.outer) (e2 : Y.env.frame = some Y.env.locals) (nd : Y.N.Nodup) (hi : Y.N[i]? = some n) (hn : Y.env.kindOf n = some .local) (tk : Takes Y out)
    (bd : ∀ (W : WX) pn xe, Takes (Y.tr pn xe) W → PassesOwn (model Y.prog Y.w) Y.A Y.env xe → PSs (Y.tr pn xe) body (tb W)) (hc : Clauses Y n (h1 :: hl) cl) :
    PS Y (.Try body (h1 :: hl) [] [] pos) (fun D σ H => tb (wClauses Y.K i out D cl) D σ H) := by
  constructor
  intro pins s σ H D I h
  have ok := I.ok
  refine wpAny_Try_except (wpAny_mono ((bd (wClauses Y.K i out D cl) (Y.pn ++ pins) (fun x s1 => wpAny (model Y.prog Y.w) Y.A (noteFrame x Y.env) (fun _ s2 => wpAny (model Y.prog Y.w) Y.A (setFlight x none) (fun _ s3 => wpAny (model Y.prog Y.w) Y.A (handleBy x Y.env (h1 :: hl)) (SP Y pins D) Y.xe s3) Y.xe s2) Y.xe s1) (fun u t z => ?_) PassesOwn.looking).run [] s σ H D (I.toTry _) h) (fun fl t z => ?_) (fun _ _ z => z))
  · obtain ⟨p, B, sI, _, σ1, H1, cls, d, rfl, J0, nb, up, sky, np, os, ag, w⟩ := z
    have J : Inv Y pins σ1 H1 sI := J0.ofTry ok
    refine Sky.land Zc.steady (by rw [ok.frames, e1]) e2 (by rw [← e1]; exact sky) fun g fg ug => ?_
    have Jg : Inv Y pins σ1 H1 { t with heap := g } := J.landed nb fg.1 (up.trans ug) os ag
    obtain ⟨og, vg, hg, zg, dg⟩ := fg.there
    have off : p ∉ frs (Y.env :: Y.outer) := fun hm => by
      obtain ⟨_, ob, e', hnf⟩ := fg.2.2.1.mem hm
      rw [hg] at e'
      cases e'
      exact hnf _ dg
    have offL : p ≠ Y.env.locals := fun q => off (List.mem_filterMap.mpr ⟨Y.env, List.mem_cons_self, by rw [e2, q]⟩)
    have offF : p ∉ Y.fs := fun hm => by
      obtain ⟨x, hx, q⟩ := List.mem_filterMap.mp hm
      exact off (List.mem_filterMap.mpr ⟨x, List.mem_cons_of_mem _ hx, q⟩)
    have Sg := Jg.suite hg dg np offL offF
    have each : ∀ {hs : List ExceptHandler} {cs : List (Value × SuT)}, Clauses Y n hs cs → wClauses Y.K i out D cs cls d σ1 H1 → wpAny (model Y.prog Y.w) Y.A (handleBy (.ref p) Y.env hs) (SP Y pins D) Y.xe { t with heap := g } := fun {hs cs} hh => by
      induction hh with
      | nil =>
        intro wn
        refine wpAny_handleBy_nil ?_
        obtain ⟨_, _, _, ob, vs, T, oT, _, he, _, hd, hT, _⟩ := id fg
        unfold PySem.passOn
        refine wpAny_bind (wpAny_field he hd hT ?_)
        rw [if_neg (by simp)]
        have go : wpAny (model Y.prog Y.w) Y.A (setFlight (.ref p) Y.env.frame) (fun _ s4 => wpAny (model Y.prog Y.w) Y.A (throw (.ref p) : Sem Flow) (SP Y pins D) Y.xe s4) Y.xe { t with heap := g } := by
          rw [e2]
          exact HandSPX.setFlight_upZ fg fun g2 f2 u2 => wpAny_throw (tk _ _ ⟨p, B, sI, pins, σ1, H1, cls, d, rfl, J, nb, (up.trans ug).trans u2, .inr (.inr (by rw [e1]; exact f2)), np, os, ag, wn⟩)
        first
          | exact wpAny_bind go
          | exact wpAny_bind (wpAny_pure (wpAny_bind go))
      | @cons y cv su st sts py pq hl' cl' nm sok more ih =>
        rintro ⟨yes, hb, hy, hno⟩
        refine wpAny_handleBy_cons (codeAny_handlers_test ?_) (fun q => nomatch q)
        have tyP : PySem.W.Looks (model Y.prog Y.w) g (typeOf (.ref p)) cls := fun _ _ _ _ k q => wpAny_typeOf_ref (k _ _ hg) (by rw [zg.1]; exact q)
        have look := PySem.W.exm_one Jg.kIn tyP hb
        have read : ∀ {Q : Value → Shared → Prop} {E : Value → Shared → Prop}, Q cv { t with heap := g } → wpAny (model Y.prog Y.w) (Y.A.mark (some (.ref p))) (eval (.Name y py) Y.env) Q E { t with heap := g } := fun q => by
          obtain ⟨k1, k2, k3 | ⟨k3, k4, k5⟩⟩ := nm
          · exact ld_glob (X := Y.suite p ((p, og) :: (Y.pn ++ pins))) Sg k1 k3 q k2
          · exact ld_blt (X := Y.suite p ((p, og) :: (Y.pn ++ pins))) Sg k1 k3 k4 q k5 k2
        refine read (look.here ?_)
        cases yes with
        | false => exact ih (hno rfl)
        | true =>
          refine codeAny_handlers_suite_as (HandSPX.lands_againZ fg fun g2 f2 u2 => ?_)
          obtain ⟨o2, v2, he2, hz2, hd2⟩ := f2.there
          have J2 : Inv Y pins σ1 H1 { t with heap := g2 } := J.landed nb f2.1 ((up.trans ug).trans u2) os ag
          have S2 := J2.suite he2 hd2 np offL offF
          refine store_ok (X := Y.suite p ((p, o2) :: (Y.pn ++ pins))) (v := .ref p) S2 nd hi (.inl hn) rfl (fun s5 S5 => ?_) (.inr hn)
          refine wpAny_mono ((sok p o2 cls d (Y.pn ++ pins) hz2 ⟨_, hd2⟩).run [] s5 _ H1 _ S5 (hy rfl p np)) (fun fl s6 z => ?_) (fun _ _ z => z.elim)
          cases fl with
          | ret u =>
            obtain ⟨v6, σ6, H6, S6, r6, q6⟩ := z
            exact gone_ok (S6.unsuite ok) nd hi hn fun s7 J7 => ⟨_, _, _, J7, r6, q6⟩
          | next =>
            obtain ⟨σ6, H6, S6, q6⟩ := z
            exact gone_ok (S6.unsuite ok) nd hi hn fun s7 J7 => ⟨_, _, J7, q6⟩
          | brk =>
            obtain ⟨σ6, H6, S6, q6⟩ := z
            exact gone_ok (S6.unsuite ok) nd hi hn fun s7 J7 => ⟨_, _, J7, q6⟩
          | cont =>
            obtain ⟨σ6, H6, S6, q6⟩ := z
            exact gone_ok (S6.unsuite ok) nd hi hn fun s7 J7 => ⟨_, _, J7, q6⟩
    exact each hc w
  · cases fl with
    | ret u =>
      obtain ⟨v, σ1, H1, J, r, q⟩ := z
      exact ⟨v, σ1, H1, J.ofTry ok, r, q⟩
    | next =>
      obtain ⟨σ1, H1, J, q⟩ := z
      exact wpAny_execs_nil ⟨σ1, H1, J.ofTry ok, q⟩
    | brk =>
      obtain ⟨σ1, H1, J, q⟩ := z
      exact ⟨σ1, H1, J.ofTry ok, q⟩
    | cont =>
      obtain ⟨σ1, H1, J, q⟩ := z
      exact ⟨σ1, H1, J.ofTry ok, q⟩
end

/-! ### in the layer: two clauses -/
def noExn {X S : Type} : Ctl X S → Ctl X S
  | .exn _ _ => .stk
  | c => c
def Ctl.tryC2 {X Y S : Type} (c : Ctl Y S) (ta tb : List Bool) (ha hb : Exc → Y → Ctl X S) : Ctl X S := match c with
  | .stk => .stk
  | .exn e x => if ta[e.c]? = some true then noExn (ha e x) else if ta[e.c]? = some false ∧ tb[e.c]? = some true then noExn (hb e x) else .stk
  | .ret d => .ret d
  | .nx s => .nx s
section
variable {F : Fm} {Γ : Gam} {X Y S J : Type} {fx : X → Gam} {fy : Y → Gam} {fs : S → Gam} {fj : J → Gam} {x0 : X} {pos : Pos} {rest body suite1 suite2 : List Stmt} {b1' b2' : Stmt}
theorem suite_end {a : Addr} {dd : Option Addr} {e : Exc} {cls : Value} {y : Y} {i : Nat} {S0 H0 S1 H1 : Hp} {Dn : Ends} {σ1 : L2.St} {Δ : Gam} {c : Ctl X J} {b₀ : Stmt} {suite : List Stmt} (g1 : Grow S0 H0 S1 H1) (hΔ : Holds F.G H0 σ1 S1 H1 Δ) (w : Weak Δ (fy y)) (rx : RepX F.G S1 cls dd e)
    (hs : ((e.fs = [] ∧ dd = none) ∨ (e.fs ≠ [] ∧ ∃ d, dd = some d)) → BM (suiteF F a (F.G.xc e.c) dd) (b₀ :: suite) ((fy y).set i (Sl.ref (refK a dd e))) (c.out fx fj)) (hj : ∀ j, (fj j)[i]? = some Sl.unk) (po : OPo F S0 H0 Dn ((noExn c).out fx fj)) :
    cB (suiteF F a cls dd) (b₀ :: suite) (goneE i Dn) (σ1.set i (some (.ref a))) H1 := by
  obtain ⟨rc, rf⟩ := rx
  subst rc
  have hsu := hs (rf.elim .inl fun ⟨n, d, _, z, _⟩ => .inr ⟨n, d, z⟩)
  have hxa : ExAt F.G S1 (refK a dd e) := fun d1 fs1 z1 => by
    rcases rf with ⟨_, n⟩ | ⟨_, d, vs, n, q1, q2, q3⟩
    · subst n
      cases z1
    · subst n
      cases z1
      exact ⟨vs, q1, q2, q3⟩
  refine hsu.c S0 H0 _ _ S1 H1 g1 ((hΔ.weak w).raw i (refK a dd e) hxa) ?_
  revert po
  cases c with
  | stk => exact fun z => z
  | exn e' x' => exact fun z => False.elim z
  | ret d => exact fun z => z
  | nx j => exact fun z σ' S' H' g' h' => z _ S' H' g' (h'.unset (hj j))
theorem bm_try2 {x1 x2 n : Str} {t1 t2 : List Bool} {np1 np2 pos1 pos2 : Pos} {cb : Ctl Y J} {h1 h2 : Exc → Y → Ctl X J} {k : J → Ctl X S} (i : Nat) (hi : F.N[i]? = some n) (hln : F.kd.lookup n = some .local) (K1 : XcN F.G x1 t1) (K2 : XcN F.G x2 t2) (hg1 : F.kd.lookup x1 = some .globalImplicit) (hg2 : F.kd.lookup x2 = some .globalImplicit) (ht : F.top = true)
    (hb : ∀ W', BM (tryF F W') body Γ (cb.out fy fj))
    (hs1 : ∀ a dd (e : Exc) y, ((e.fs = [] ∧ dd = none) ∨ (e.fs ≠ [] ∧ ∃ d, dd = some d)) → t1[e.c]? = some true → BM (suiteF F a (F.G.xc e.c) dd) (b1' :: suite1) ((fy y).set i (Sl.ref (refK a dd e))) ((h1 e y).out fx fj))
    (hs2 : ∀ a dd (e : Exc) y, ((e.fs = [] ∧ dd = none) ∨ (e.fs ≠ [] ∧ ∃ d, dd = some d)) → t2[e.c]? = some true → BM (suiteF F a (F.G.xc e.c) dd) (b2' :: suite2) ((fy y).set i (Sl.ref (refK a dd e))) ((h2 e y).out fx fj))
    (hj : ∀ j, (fj j)[i]? = some Sl.unk) (hr : ∀ j, BM F rest (fj j) ((k j).out fx fs)) :
    BM F (.Try body [.ExceptHandler (some (.Name x1 np1)) (some n) (b1' :: suite1) pos1, .ExceptHandler (some (.Name x2 np2)) (some n) (b2' :: suite2) pos2] [] [] pos :: rest) Γ (((cb.tryC2 t1 t2 h1 h2).bind k).out fx fs) := by
  obtain ⟨c1, v1, nm1, _, _, hx1⟩ := K1.ex
  obtain ⟨c2, v2, nm2, _, _, hx2⟩ := K2.ex
  let su1 : SuT := fun a cls d => cB (suiteF F a cls d) (b1' :: suite1)
  let su2 : SuT := fun a cls d => cB (suiteF F a cls d) (b2' :: suite2)
  refine bm_cons (t := fun D σ H => cB (tryF F (wClauses F.G.K i F.W D [(c1, su1), (c2, su2)])) body D σ H) (fun Z hZ => ?_) fun S0 H0 Dn σ S H g hh po => ?_
  · obtain ⟨h1, h2, h3, h4, h5, h6⟩ := F.hX Z hZ
    obtain ⟨z1, z2, z3⟩ := F.ht ht Z hZ
    have hp := ps_clauses (Y := Z) (n := n) (i := i) (body := body) (pos := pos) (cl := [(c1, su1), (c2, su2)]) (tb := fun W => cB (tryF F W) body) (out := F.W) z1 z2 (by rw [h6]; exact F.nd) (by rw [h6]; exact hi) (by show Z.env.scope.names.lookup n = _; rw [F.hkd Z hZ]; exact hln) (F.tk Z hZ)
      (fun W pn xe tk po => cB_ok (F := tryF F W) _ ⟨Z, pn, xe, hZ, tk, po, rfl⟩)
      (.cons (py := np1) (pq := pos1) ⟨F.gl Z hZ hg1, K1.db, by rw [h4]; exact nm1⟩ (fun a oe cls d pn hz hf => cB_ok (F := suiteF F a cls d) _ ⟨Z, oe, pn, hZ, hz, hf, rfl⟩)
        (.cons (py := np2) (pq := pos2) ⟨F.gl Z hZ hg2, K2.db, by rw [h4]; exact nm2⟩ (fun a oe cls d pn hz hf => cB_ok (F := suiteF F a cls d) _ ⟨Z, oe, pn, hZ, hz, hf, rfl⟩) .nil))
    rw [F.hK Z hZ] at hp
    exact hp
  · have po := OPo.seq (F := F) (nx := cB F rest Dn) (fj := fj) po fun j q σ S H g hh => (hr j).c S0 H0 Dn σ S H g hh q
    have hb := (hb (wClauses F.G.K i F.W { Dn with nx := cB F rest Dn } [(c1, su1), (c2, su2)])).c S0 H0 { Dn with nx := cB F rest Dn } σ S H g hh
    refine hb ?_
    cases cb with
    | stk => exact po
    | ret d => exact po
    | nx j => exact po
    | exn e y =>
      intro cls dd σ1 S1 H1 g1 hΔ rx
      obtain ⟨Δ, hΔ, w⟩ := hΔ
      by_cases q1 : t1[e.c]? = some true
      · have po : OPo F S0 H0 { Dn with nx := cB F rest Dn } ((noExn (h1 e y)).out fx fj) := by
          have z : Ctl.tryC2 (.exn e y) t1 t2 h1 h2 = noExn (h1 e y) := if_pos q1
          rw [← z]
          exact po
        exact ⟨true, by rw [rx.1]; exact (hx1 e.c true q1).1, fun _ a ha => suite_end g1 hΔ w rx (fun hd => hs1 a dd e y hd q1) hj po, (fun z => by cases z)⟩
      · by_cases q2 : t1[e.c]? = some false ∧ t2[e.c]? = some true
        · have po : OPo F S0 H0 { Dn with nx := cB F rest Dn } ((noExn (h2 e y)).out fx fj) := by
            have z : Ctl.tryC2 (.exn e y) t1 t2 h1 h2 = noExn (h2 e y) := (if_neg q1).trans (if_pos q2)
            rw [← z]
            exact po
          exact ⟨false, by rw [rx.1]; exact (hx1 e.c false q2.1).1, (fun z => by cases z), fun _ => ⟨true, by rw [rx.1]; exact (hx2 e.c true q2.2).1, fun _ a ha => suite_end g1 hΔ w rx (fun hd => hs2 a dd e y hd q2.2) hj po, (fun z => by cases z)⟩⟩
        · have z : Ctl.tryC2 (.exn e y) t1 t2 h1 h2 = .stk := (if_neg q1).trans (if_neg q2)
          rw [z] at po
          exact False.elim po
end
end Mir
namespace Mir
open PySem PySem.Spec L2

/-! ### the mirrors' own laws -/
section
variable {α β γ X S T : Type}
@[simp] theorem bindC_ok {a : α} {x : X} {k : α → Ctl X S} : M.bindC (.ok a) x k = k a := id rfl
@[simp] theorem bindC_exn {e : Exc} {x : X} {k : α → Ctl X S} : M.bindC (.exn e) x k = .exn e x := id rfl
@[simp] theorem b1_ok {f : α → M β} {a : α} : b1 f (.ok a) = f a := id rfl
@[simp] theorem b2_ok {f : α → β → M γ} {a : α} {b : β} : b2 f (.ok a) (.ok b) = f a b := id rfl
@[simp] theorem bind_ok {a : α} {k : α → M β} : M.bind (.ok a) k = k a := id rfl
@[simp] theorem mlist_nil : mlist ([] : List (M α)) = .ok [] := id rfl
@[simp] theorem mlist_cons {a : α} {l : List (M α)} : mlist (.ok a :: l) = (mlist l).bind fun r => .ok (a :: r) := id rfl
@[simp] theorem ctl_nx {s : S} {k : S → Ctl X T} : Ctl.bind (.nx s) k = k s := id rfl
@[simp] theorem ctl_ret {d : D} {k : S → Ctl X T} : Ctl.bind (.ret d) k = .ret d := id rfl
@[simp] theorem ctl_exn {e : Exc} {x : X} {k : S → Ctl X T} : Ctl.bind (.exn e x) k = .exn e x := id rfl
@[simp] theorem andM_ok {c : Bool} {b : M Bool} : andM (.ok c) b = if c = true then b else .ok false := id rfl
@[simp] theorem orM_ok {c : Bool} {b : M Bool} : orM (.ok c) b = if c = true then .ok true else b := id rfl
@[simp] theorem notM_ok {c : Bool} : notM (.ok c) = .ok (!c) := id rfl
@[simp] theorem ifM_ok {c : Bool} {a b : M α} : ifM (.ok c) a b = if c = true then a else b := id rfl
@[simp] theorem isB_bl {b : Bool} : isB (.bl b) = .ok b := id rfl
@[simp] theorem toM_ret {d : D} : Ctl.toM (.ret d : Ctl X S) = .ok d := id rfl
@[simp] theorem toM_nx {s : S} : Ctl.toM (.nx s : Ctl X S) = .ok .non := id rfl
@[simp] theorem toM_exn {e : Exc} {x : X} : Ctl.toM (.exn e x : Ctl X S) = .exn e := id rfl
@[simp] theorem ofOpt_some {a : α} : ofOpt (some a) = .ok a := id rfl
end
section
variable {a b : Int}
@[simp] theorem add_ii : pyAdd (.int a) (.int b) = .ok (.int (a + b)) := id rfl
@[simp] theorem sub_ii : pySub (.int a) (.int b) = .ok (.int (a - b)) := id rfl
@[simp] theorem neg_i : pyNeg (.int a) = .ok (.int (-a)) := id rfl
@[simp] theorem lt_ii : pyLt (.int a) (.int b) = .ok (.bl (decide (a < b))) := id rfl
@[simp] theorem le_ii : pyLe (.int a) (.int b) = .ok (.bl (decide (a ≤ b))) := id rfl
@[simp] theorem gt_ii : pyGt (.int a) (.int b) = .ok (.bl (decide (b < a))) := id rfl
@[simp] theorem ge_ii : pyGe (.int a) (.int b) = .ok (.bl (decide (b ≤ a))) := id rfl
@[simp] theorem eq_ii : pyEq (.int a) (.int b) = .ok (.bl (decide (a = b))) := id rfl
@[simp] theorem ne_ii : pyNe (.int a) (.int b) = .ok (.bl (!decide (a = b))) := id rfl
@[simp] theorem int_i : pyInt [.int a] = .ok (.int a) := id rfl
@[simp] theorem int_b {c : Bool} : pyInt [.bl c] = .ok (.int (if c then 1 else 0)) := id rfl
theorem gt_t (h : b < a) : pyGt (.int a) (.int b) = .ok (.bl true) := by rw [gt_ii, decide_eq_true h]
theorem gt_f (h : ¬ b < a) : pyGt (.int a) (.int b) = .ok (.bl false) := by rw [gt_ii, decide_eq_false h]
theorem lt_t (h : a < b) : pyLt (.int a) (.int b) = .ok (.bl true) := by rw [lt_ii, decide_eq_true h]
theorem lt_f (h : ¬ a < b) : pyLt (.int a) (.int b) = .ok (.bl false) := by rw [lt_ii, decide_eq_false h]
theorem le_t (h : a ≤ b) : pyLe (.int a) (.int b) = .ok (.bl true) := by rw [le_ii, decide_eq_true h]
theorem le_f (h : ¬ a ≤ b) : pyLe (.int a) (.int b) = .ok (.bl false) := by rw [le_ii, decide_eq_false h]
theorem ge_t (h : b ≤ a) : pyGe (.int a) (.int b) = .ok (.bl true) := by rw [ge_ii, decide_eq_true h]
theorem ge_f (h : ¬ b ≤ a) : pyGe (.int a) (.int b) = .ok (.bl false) := by rw [ge_ii, decide_eq_false h]
theorem eq_t (h : a = b) : pyEq (.int a) (.int b) = .ok (.bl true) := by rw [eq_ii, decide_eq_true h]
theorem eq_f (h : ¬ a = b) : pyEq (.int a) (.int b) = .ok (.bl false) := by rw [eq_ii, decide_eq_false h]
theorem ne_t (h : ¬ a = b) : pyNe (.int a) (.int b) = .ok (.bl true) := by rw [ne_ii, decide_eq_false h]; rfl
theorem ne_f (h : a = b) : pyNe (.int a) (.int b) = .ok (.bl false) := by rw [ne_ii, decide_eq_true h]; rfl
theorem mul_ii (h : (-(2 ^ 64) < a ∧ a < 2 ^ 64) ∨ (-(2 ^ 64) < b ∧ b < 2 ^ 64)) : pyMul (.int a) (.int b) = .ok (.int (a * b)) := if_pos h
theorem mod_ii (h : 0 < b) : pyMod (.int a) (.int b) = .ok (.int (a % b)) := if_pos h
theorem div_ii (h : 0 < b ∧ b < 1073741824) : pyDiv (.int a) (.int b) = .ok (.int (a / b)) := if_pos h
theorem range_i (h : -(2 ^ 62) ≤ a ∧ a < 2 ^ 62) : pyRange1 [.int a] = .ok (rangeD 0 a.toNat) := if_pos h
end
theorem unL2_at {α : Type} {z : α} {a b : D} {k : D → D → α} : unL2 z [a, b] k = k a b := id rfl
theorem unL3_at {α : Type} {z : α} {a b c : D} {k : D → D → D → α} : unL3 z [a, b, c] k = k a b c := id rfl
theorem un2_t {α : Type} {z : α} {a b : D} {k : D → D → α} : un2 z (.tup [a, b]) k = k a b := id rfl
theorem un3_t {α : Type} {z : α} {a b c : D} {k : D → D → D → α} : un3 z (.tup [a, b, c]) k = k a b c := id rfl
theorem un4_t {α : Type} {z : α} {a b c d : D} {k : D → D → D → D → α} : un4 z (.tup [a, b, c, d]) k = k a b c d := id rfl
theorem un4_l {α : Type} {z : α} {a b c d : D} {k : D → D → D → D → α} : un4 z (.lst [a, b, c, d]) k = k a b c d := id rfl
theorem ite_t {α : Type} {a b : α} : (if true = true then a else b) = a := if_pos rfl
theorem ite_f {α : Type} {a b : α} : (if false = true then a else b) = b := if_neg Bool.false_ne_true
/-! ### loops -/
section
variable {X S : Type}
theorem forC_inv {f : D → S → Ctl X S} (Inv : Nat → S → Prop) : ∀ {ds : List D} {i : Nat} {s : S}, (∀ (j : Nat) d s, ds[j]? = some d → Inv (i + j) s → ∃ s', f d s = .nx s' ∧ Inv (i + j + 1) s') → Inv i s → ∃ s', forC f ds s = .nx s' ∧ Inv (i + ds.length) s'
  | [], i, s, _, h0 => ⟨s, rfl, h0⟩
  | d :: ds, i, s, h, h0 => by
    obtain ⟨s1, e1, h1⟩ := h 0 d s rfl h0
    obtain ⟨s2, e2, h2⟩ := forC_inv Inv (ds := ds) (i := i + 1) (s := s1) (fun j d s hj hi => by
      have := h (j + 1) d s (by simpa using hj) (by rw [← Nat.add_assoc, Nat.add_right_comm]; exact hi)
      rw [show i + 1 + j + 1 = i + (j + 1) + 1 by omega]
      exact this) h1
    refine ⟨s2, ?_, by rw [List.length_cons]; rw [show i + (ds.length + 1) = i + 1 + ds.length by omega]; exact h2⟩
    show (f d s).bind (forC f ds) = _
    rw [e1]
    exact e2
theorem range_at {lo : Int} {n j : Nat} {d : D} (h : (rangeD lo n)[j]? = some d) : j < n ∧ d = .int (lo + j) := by
  unfold rangeD at h
  rw [List.getElem?_map] at h
  by_cases hj : j < n
  · rw [List.getElem?_range hj] at h
    cases h
    exact ⟨hj, rfl⟩
  · rw [List.getElem?_eq_none (by simpa using hj)] at h
    cases h
theorem range_len {lo : Int} {n : Nat} : (rangeD lo n).length = n := by unfold rangeD; simp
/-- over 0, 1, .. n - 1 -/
theorem forR_inv {f : D → S → Ctl X S} {n : Nat} {s : S} (Inv : Nat → S → Prop) (h : ∀ (j : Nat) s, j < n → Inv j s → ∃ s', f (.int j) s = .nx s' ∧ Inv (j + 1) s') (h0 : Inv 0 s) : ∃ s', forC f (rangeD 0 n) s = .nx s' ∧ Inv n s' := by
  obtain ⟨s', e, q⟩ := forC_inv Inv (f := f) (ds := rangeD 0 n) (i := 0) (s := s) (fun j d s hj hi => by
    obtain ⟨hl, rfl⟩ := range_at hj
    rw [Nat.zero_add] at hi ⊢
    rw [Int.zero_add]
    exact h j s hl hi) h0
  rw [range_len, Nat.zero_add] at q
  exact ⟨s', e, q⟩
end

/-! ### what a piece ends in -/
section
variable {X S T : Type}
def RetIs (c : Ctl X S) (R : D → Prop) : Prop := ∃ d, c = .ret d ∧ R d
def NxIs (c : Ctl X S) (R : S → Prop) : Prop := ∃ s, c = .nx s ∧ R s
theorem RetIs.mk {d : D} {R : D → Prop} (h : R d) : RetIs (.ret d : Ctl X S) R := ⟨d, rfl, h⟩
theorem NxIs.mk {s : S} {R : S → Prop} (h : R s) : NxIs (.nx s : Ctl X S) R := ⟨s, rfl, h⟩
theorem NxIs.ret {c : Ctl X S} {k : S → Ctl X T} {P : S → Prop} {R : D → Prop} (h : NxIs c P) (hk : ∀ s, P s → RetIs (k s) R) : RetIs (c.bind k) R := by
  obtain ⟨s, rfl, p⟩ := h
  exact hk s p
theorem NxIs.nx {c : Ctl X S} {k : S → Ctl X T} {P : S → Prop} {R : T → Prop} (h : NxIs c P) (hk : ∀ s, P s → NxIs (k s) R) : NxIs (c.bind k) R := by
  obtain ⟨s, rfl, p⟩ := h
  exact hk s p
theorem loop_nx {f : D → S → Ctl X S} {ds : List D} {s : S} (Inv : Nat → S → Prop) (h0 : Inv 0 s) (h : ∀ (j : Nat) d s, ds[j]? = some d → Inv j s → NxIs (f d s) (Inv (j + 1))) : NxIs (forC f ds s) (Inv ds.length) := by
  obtain ⟨s', e, q⟩ := forC_inv Inv (f := f) (ds := ds) (i := 0) (s := s) (fun j d s hj hi => by rw [Nat.zero_add] at hi ⊢; exact h j d s hj hi) h0
  rw [Nat.zero_add] at q
  exact ⟨s', e, q⟩
theorem loopR_nx {f : D → S → Ctl X S} {n : Nat} {s : S} (Inv : Nat → S → Prop) (h0 : Inv 0 s) (h : ∀ (j : Nat) s, j < n → Inv j s → NxIs (f (.int j) s) (Inv (j + 1))) : NxIs (forC f (rangeD 0 n) s) (Inv n) := forR_inv Inv (fun j s hj hi => h j s hj hi) h0
end
/-! ### loops in closed form -/
def outF {X S : Type} (s : S) : Option D → Ctl X S
  | some r => .ret r
  | none => .nx s
section
variable {X S : Type}
theorem loop_find {f : D → Unit → Ctl X Unit} (g : D → Option D) : ∀ {ds : List D}, (∀ d ∈ ds, f d () = outF () (g d)) → forC f ds () = outF () (ds.findSome? g)
  | [], _ => rfl
  | d :: ds, h => by
    show (f d ()).bind (forC f ds) = _
    rw [h d (by simp), List.findSome?_cons]
    cases g d with
    | some r => rfl
    | none => exact loop_find g fun e he => h e (by simp [he])
theorem findSome_map {α β γ : Type} (g : β → Option γ) (h : α → β) : ∀ l : List α, (l.map h).findSome? g = l.findSome? (fun x => g (h x))
  | [] => rfl
  | a :: l => by rw [List.map_cons, List.findSome?_cons, List.findSome?_cons, findSome_map g h l]
theorem loopM_find {α : Type} {f : D → Unit → Ctl X Unit} (h : α → D) (g : α → Option D) : ∀ {xs : List α}, (∀ x ∈ xs, f (h x) () = outF () (g x)) → forC f (xs.map h) () = outF () (xs.findSome? g)
  | [], _ => rfl
  | x :: xs, k => by
    show (f (h x) ()).bind (forC f (xs.map h)) = _
    rw [k x (by simp), List.findSome?_cons]
    cases g x with
    | some r => rfl
    | none => exact loopM_find h g fun e he => k e (by simp [he])
theorem rangeD_map (n : Nat) : rangeD 0 n = (List.range n).map fun j : Nat => D.int j := by
  unfold rangeD
  simp
theorem loopR_find {f : D → Unit → Ctl X Unit} {n : Nat} (g : Nat → Option D) (h : ∀ j : Nat, j < n → f (.int j) () = outF () (g j)) : forC f (rangeD 0 n) () = outF () ((List.range n).findSome? g) := by
  rw [rangeD_map]
  exact loopM_find _ g fun x hx => h x (List.mem_range.mp hx)
theorem loop_st {f : D → S → Ctl X S} : ∀ {ds : List D} (g : Nat → S), (∀ (j : Nat) d, ds[j]? = some d → f d (g j) = .nx (g (j + 1))) → forC f ds (g 0) = .nx (g ds.length)
  | [], _, _ => rfl
  | d :: ds, g, h => by
    show (f d (g 0)).bind (forC f ds) = _
    rw [h 0 d rfl]
    exact loop_st (fun j => g (j + 1)) fun j d hj => h (j + 1) d (by simpa using hj)
theorem loopR_st {f : D → S → Ctl X S} {n : Nat} (g : Nat → S) (h : ∀ j : Nat, j < n → f (.int j) (g j) = .nx (g (j + 1))) : forC f (rangeD 0 n) (g 0) = .nx (g n) := by
  have := loop_st (f := f) (ds := rangeD 0 n) g fun j d hj => by
    obtain ⟨hl, rfl⟩ := range_at hj
    rw [Int.zero_add]
    exact h j hl
  rw [range_len] at this
  exact this
/-- all turns go on alike -/
theorem loop_id {f : D → S → Ctl X S} {s : S} : ∀ {ds : List D}, (∀ d ∈ ds, f d s = .nx s) → forC f ds s = .nx s
  | [], _ => rfl
  | d :: ds, h => by
    show (f d s).bind (forC f ds) = _
    rw [h d (by simp)]
    exact loop_id fun e he => h e (by simp [he])
@[simp] theorem outF_some {r : D} {s : S} : (outF s (some r) : Ctl X S) = .ret r := id rfl
@[simp] theorem outF_none {s : S} : (outF s none : Ctl X S) = .nx s := id rfl
end
/-! ### comprehensions in closed form -/
theorem compL_map {α : Type} {f : D → M (List D)} (h : α → D) (g : α → List D) : ∀ {xs : List α}, (∀ x ∈ xs, f (h x) = .ok (g x)) → compL f (xs.map h) = .ok (xs.flatMap g)
  | [], _ => rfl
  | x :: xs, k => by
    show (f (h x)).bind (fun ys => (compL f (xs.map h)).bind fun r => .ok (ys ++ r)) = _
    rw [k x (by simp), compL_map h g fun e he => k e (by simp [he])]
    rfl
theorem compR {f : D → M (List D)} {n : Nat} (g : Nat → List D) (h : ∀ j : Nat, j < n → f (.int j) = .ok (g j)) : compL f (rangeD 0 n) = .ok ((List.range n).flatMap g) := by
  rw [rangeD_map]
  exact compL_map _ g fun x hx => h x (List.mem_range.mp hx)
theorem sz_big {n : Nat} (h : n < 1000000) : n < sizeLine := by rw [sizeLine_eq]; omega
theorem lcM_ok {i : M (List D)} {f : D → M (List D)} {ds r : List D} (hi : i = .ok ds) (h : compL f ds = .ok r) (hl : r.length < 1000000) : lcM i f = .ok (.lst r) := by
  unfold lcM
  rw [hi]
  show ((compL f ds).nox).bind mkLst = _
  rw [h]
  show mkLst r = _
  unfold mkLst
  rw [if_pos (Nat.le_of_lt (sz_big hl))]
theorem elM_t {e : M D} {d : D} (h : e = .ok d) : elM (.ok true) e = .ok [d] := by rw [h]; rfl
theorem elM_f {e : M D} : elM (.ok false) e = .ok [] := rfl
theorem inM_t {i : M (List D)} {f : D → M (List D)} {ds : List D} (h : i = .ok ds) : inM (.ok true) i f = compL f ds := by rw [h]; rfl
theorem tup_ok {ds : List D} (h : ds.length < 1000000) : mkTup ds = .ok (.tup ds) := if_pos (Nat.le_of_lt (sz_big h))
theorem lst_ok {ds : List D} (h : ds.length < 1000000) : mkLst ds = .ok (.lst ds) := if_pos (Nat.le_of_lt (sz_big h))
theorem tup2 {a b : D} : b1 mkTup (mlist [.ok a, .ok b]) = .ok (.tup [a, b]) := show mkTup [a, b] = _ from tup_ok (by simp)
theorem tup3 {a b c : D} : b1 mkTup (mlist [.ok a, .ok b, .ok c]) = .ok (.tup [a, b, c]) := show mkTup [a, b, c] = _ from tup_ok (by simp)
theorem tup4 {a b c d : D} : b1 mkTup (mlist [.ok a, .ok b, .ok c, .ok d]) = .ok (.tup [a, b, c, d]) := show mkTup [a, b, c, d] = _ from tup_ok (by simp)
theorem tup5 {a b c d e : D} : b1 mkTup (mlist [.ok a, .ok b, .ok c, .ok d, .ok e]) = .ok (.tup [a, b, c, d, e]) := show mkTup [a, b, c, d, e] = _ from tup_ok (by simp)
end Mir
namespace Mir
abbrev Pt := Int × Int
def crs (p q r : Pt) : Int := (q.1 - p.1) * (r.2 - p.2) - (q.2 - p.2) * (r.1 - p.1)
theorem crs_swap (p q r : Pt) : crs q p r = - crs p q r := by unfold crs; grind
theorem crs_swap2 (p q r : Pt) : crs p r q = - crs p q r := by unfold crs; grind
theorem crs4 (w a b c : Pt) : crs w a b - crs w a c + crs w b c - crs a b c = 0 := by unfold crs; grind
theorem crs5 (x a b c d : Pt) : crs x a b * crs x c d - crs x a c * crs x b d + crs x a d * crs x b c = 0 := by unfold crs; grind
theorem par3 {A B C j k m : Int} (hj : A * (j * j) - B * j + C = 0) (hk : A * (k * k) - B * k + C = 0) (hm : A * (m * m) - B * m + C = 0) (h1 : j ≠ k) (h2 : j ≠ m) (h3 : k ≠ m) : A = 0 ∧ B = 0 := by
  have e1 : (j - k) * (A * (j + k) - B) = 0 := by grind
  have e2 : (j - m) * (A * (j + m) - B) = 0 := by grind
  have e3 : A * (j + k) - B = 0 := by
    rcases Int.mul_eq_zero.mp e1 with h | h
    · omega
    · exact h
  have e4 : A * (j + m) - B = 0 := by
    rcases Int.mul_eq_zero.mp e2 with h | h
    · omega
    · exact h
  have e5 : A * (k - m) = 0 := by grind
  rcases Int.mul_eq_zero.mp e5 with h | h
  · refine ⟨h, ?_⟩
    subst h
    omega
  · omega

/-! ### counts -/
section
variable {α : Type}
theorem countP_or (p q : α → Bool) : ∀ l : List α, l.countP (fun x => p x || q x) ≤ l.countP p + l.countP q
  | [] => by simp
  | x :: l => by
    have ih := countP_or p q l
    simp only [List.countP_cons]
    cases p x <;> cases q x <;> simp <;> omega
theorem countP_le2 {l : List α} (hn : l.Nodup) {p : α → Bool} (h : ∀ a b c, p a = true → p b = true → p c = true → a ≠ b → a ≠ c → b ≠ c → False) : l.countP p ≤ 2 := by
  rw [List.countP_eq_length_filter]
  have hs : (l.filter p).Nodup := hn.sublist List.filter_sublist
  have hp : ∀ x ∈ l.filter p, p x = true := fun x hx => (List.mem_filter.mp hx).2
  match hf : l.filter p, hs, hp with
  | [], _, _ => simp
  | [_], _, _ => simp
  | [_, _], _, _ => simp
  | a :: b :: c :: r, hs, hp =>
    exfalso
    simp only [List.nodup_cons, List.mem_cons] at hs
    refine h a b c (hp a (by simp)) (hp b (by simp)) (hp c (by simp)) (fun e => hs.1 (.inl e)) (fun e => hs.1 (.inr (.inl e))) (fun e => hs.2.1 (.inl e))
theorem countP_le1 {l : List α} (hn : l.Nodup) {p : α → Bool} (h : ∀ a b, p a = true → p b = true → a ≠ b → False) : l.countP p ≤ 1 := by
  rw [List.countP_eq_length_filter]
  have hs : (l.filter p).Nodup := hn.sublist List.filter_sublist
  have hp : ∀ x ∈ l.filter p, p x = true := fun x hx => (List.mem_filter.mp hx).2
  match hf : l.filter p, hs, hp with
  | [], _, _ => simp
  | [_], _, _ => simp
  | a :: b :: r, hs, hp =>
    exfalso
    simp only [List.nodup_cons, List.mem_cons] at hs
    exact h a b (hp a (by simp)) (hp b (by simp)) (fun e => hs.1 (.inl e))
/-- a disjunction over k < m of conditions with counts at most c k -/
theorem countP_any {l : List α} (p : Nat → α → Bool) (c : Nat → Nat) : ∀ m : Nat, (∀ k, k < m → l.countP (p k) ≤ c k) → l.countP (fun x => (List.range m).any fun k => p k x) ≤ ((List.range m).map c).sum
  | 0, _ => by simp
  | m + 1, h => by
    have ih := countP_any p c m fun k hk => h k (by omega)
    have hm := h m (by omega)
    have e : (fun x => (List.range (m + 1)).any fun k => p k x) = fun x => ((List.range m).any fun k => p k x) || p m x := by
      funext x
      rw [List.range_succ, List.any_append]
      simp
    rw [e, List.range_succ, List.map_append, List.sum_append]
    have := countP_or (fun x => (List.range m).any fun k => p k x) (p m) l
    simp
    omega
end

/-! ### free spots -/
def gp (l : List Pt) (k : Nat) : Pt := l.getD k (0, 0)
def badJ (l : List Pt) (s : Pt) (k j : Nat) : Bool := decide (crs (gp l j) (gp l k) s = 0)
def badK (l : List Pt) (s : Pt) (k : Nat) : Bool := decide (gp l k = s) || (List.range k).any (badJ l s k)
def freeB (l : List Pt) (s : Pt) : Bool := !(List.range l.length).any (badK l s)
def spotAt (x y : Int) (j : Nat) : Pt := (x + (j : Int), y + (j : Int) * (j : Int))

/-- no two equal, no three on a line -/
structure GP (l : List Pt) : Prop where
  ne : ∀ i k, i < k → k < l.length → gp l i ≠ gp l k
  cr : ∀ i j k, i < j → j < k → k < l.length → crs (gp l i) (gp l j) (gp l k) ≠ 0

theorem spot_count1 (p : Pt) (x y : Int) : (List.range 60).countP (fun j => decide (p = spotAt x y j)) ≤ 1 := by
  refine countP_le1 List.nodup_range fun a b ha hb hab => ?_
  have ha := of_decide_eq_true ha
  have hb := of_decide_eq_true hb
  rw [ha] at hb
  unfold spotAt at hb
  simp only [Prod.mk.injEq] at hb
  omega
theorem spot_count2 (p q : Pt) (x y : Int) (hpq : p ≠ q) : (List.range 60).countP (fun j => decide (crs p q (spotAt x y j) = 0)) ≤ 2 := by
  refine countP_le2 List.nodup_range fun a b c ha hb hc hab hac hbc => ?_
  have ha := of_decide_eq_true ha
  have hb := of_decide_eq_true hb
  have hc := of_decide_eq_true hc
  unfold crs spotAt at ha hb hc
  dsimp only at ha hb hc
  have := par3 (A := q.1 - p.1) (B := q.2 - p.2) (C := (q.1 - p.1) * (y - p.2) - (q.2 - p.2) * (x - p.1)) (j := a) (k := b) (m := c) (by grind) (by grind) (by grind) (by omega) (by omega) (by omega)
  apply hpq
  obtain ⟨p1, p2⟩ := p
  obtain ⟨q1, q2⟩ := q
  simp only [Prod.mk.injEq] at *
  omega
theorem sum_const : ∀ n c : Nat, ((List.range n).map fun _ => c).sum = n * c
  | 0, c => by simp
  | n + 1, c => by rw [List.range_succ, List.map_append, List.sum_append, sum_const n c, Nat.succ_mul]; simp
theorem exists_free (l : List Pt) (g : GP l) (hl : l.length ≤ 7) (x y : Int) : ∃ j, j < 60 ∧ freeB l (spotAt x y j) = true := by
  have h1 : (List.range 60).countP (fun j => (List.range l.length).any fun k => badK l (spotAt x y j) k) ≤ ((List.range l.length).map fun k => 1 + k * 2).sum := by
    refine countP_any (fun k j => badK l (spotAt x y j) k) (fun k => 1 + k * 2) _ fun k hk => ?_
    refine Nat.le_trans (countP_or (fun j => decide (gp l k = spotAt x y j)) (fun j => (List.range k).any (badJ l (spotAt x y j) k)) _) ?_
    refine Nat.add_le_add (spot_count1 _ x y) ?_
    rw [← sum_const]
    refine countP_any (fun i j => badJ l (spotAt x y j) k i) (fun _ => 2) k fun i hi => ?_
    exact spot_count2 _ _ x y (g.ne i k hi hk)
  have h2 : ∀ n, n ≤ 7 → ((List.range n).map fun k => 1 + k * 2).sum ≤ 49 := by decide
  have h3 := h2 _ hl
  by_cases h : ∃ j, j < 60 ∧ freeB l (spotAt x y j) = true
  · exact h
  · exfalso
    have : (List.range 60).countP (fun j => (List.range l.length).any fun k => badK l (spotAt x y j) k) = (List.range 60).length := by
      rw [List.countP_eq_length]
      intro j hj
      cases hb : (List.range l.length).any fun k => badK l (spotAt x y j) k with
      | true => rfl
      | false =>
        exfalso
        refine h ⟨j, List.mem_range.mp hj, ?_⟩
        unfold freeB
        rw [show (List.range l.length).any (badK l (spotAt x y j)) = false from hb]
        rfl
    rw [this, List.length_range] at h1
    omega
theorem gp_lt {l : List Pt} {s : Pt} {k : Nat} (h : k < l.length) : gp (l ++ [s]) k = gp l k := by
  unfold gp
  rw [List.getD_eq_getElem?_getD, List.getElem?_append_left h, ← List.getD_eq_getElem?_getD]
theorem gp_last {l : List Pt} {s : Pt} : gp (l ++ [s]) l.length = s := by
  unfold gp
  rw [List.getD_eq_getElem?_getD, List.getElem?_append_right (Nat.le_refl _)]
  simp
theorem GP.nil : GP [] := ⟨fun _ _ _ h => by simp at h, fun _ _ _ _ _ h => by simp at h⟩
theorem freeB_iff {l : List Pt} {s : Pt} (h : freeB l s = true) : ∀ k, k < l.length → gp l k ≠ s ∧ ∀ j, j < k → crs (gp l j) (gp l k) s ≠ 0 := by
  intro k hk
  unfold freeB at h
  have h1 : badK l s k = false := by
    cases hb : badK l s k with
    | false => rfl
    | true =>
      have : (List.range l.length).any (badK l s) = true := List.any_eq_true.mpr ⟨k, List.mem_range.mpr hk, hb⟩
      rw [this] at h
      cases h
  unfold badK at h1
  rw [Bool.or_eq_false_iff] at h1
  refine ⟨of_decide_eq_false h1.1, fun j hj => ?_⟩
  have h2 := h1.2
  cases hb : badJ l s k j with
  | false => exact of_decide_eq_false hb
  | true =>
    have : (List.range k).any (badJ l s k) = true := List.any_eq_true.mpr ⟨j, List.mem_range.mpr hj, hb⟩
    rw [this] at h2
    cases h2
theorem GP.snoc {l : List Pt} {s : Pt} (g : GP l) (h : freeB l s = true) : GP (l ++ [s]) := by
  have hf := freeB_iff h
  refine ⟨fun i k hi hk => ?_, fun i j k hi hj hk => ?_⟩
  · rw [List.length_append, List.length_singleton] at hk
    rcases Nat.lt_or_ge k l.length with hk' | hk'
    · rw [gp_lt hk', gp_lt (Nat.lt_trans hi hk')]
      exact g.ne i k hi hk'
    · have : k = l.length := by omega
      subst this
      rw [gp_last, gp_lt hi]
      exact (hf i hi).1
  · rw [List.length_append, List.length_singleton] at hk
    rcases Nat.lt_or_ge k l.length with hk' | hk'
    · rw [gp_lt hk', gp_lt (Nat.lt_trans hj hk'), gp_lt (Nat.lt_trans hi (Nat.lt_trans hj hk'))]
      exact g.cr i j k hi hj hk'
    · have : k = l.length := by omega
      subst this
      rw [gp_last, gp_lt hj, gp_lt (Nat.lt_trans hi hj)]
      exact (hf j hj).2 i hi

/-! ### turns -/
/-- the sign of the turn of posts a, b, c -/
def sgn (z : Int) : Int := (if 0 < z then 1 else 0) - (if z < 0 then 1 else 0)
theorem sgn_neg (z : Int) : sgn (-z) = - sgn z := by unfold sgn; split <;> split <;> split <;> split <;> omega
def ptT (l : List Pt) (a b c : Nat) : Int := sgn (crs (gp l a) (gp l b) (gp l c))
theorem ptT_swap (l : List Pt) (a b c : Nat) : ptT l b a c = - ptT l a b c := by unfold ptT; rw [crs_swap, sgn_neg]
theorem ptT_swap2 (l : List Pt) (a b c : Nat) : ptT l a c b = - ptT l a b c := by unfold ptT; rw [crs_swap2, sgn_neg]
theorem sgn_cases (z : Int) : (0 < z ∧ sgn z = 1) ∨ (z < 0 ∧ sgn z = -1) ∨ (z = 0 ∧ sgn z = 0) := by unfold sgn; split <;> split <;> omega
theorem GP.all {l : List Pt} (g : GP l) {a b c : Nat} (ha : a < l.length) (hb : b < l.length) (hc : c < l.length) (hab : a ≠ b) (hac : a ≠ c) (hbc : b ≠ c) : crs (gp l a) (gp l b) (gp l c) ≠ 0 := by
  have k := g.cr
  rcases Nat.lt_or_gt_of_ne hab with h1 | h1 <;> rcases Nat.lt_or_gt_of_ne hac with h2 | h2 <;> rcases Nat.lt_or_gt_of_ne hbc with h3 | h3 <;> try omega
  · exact k a b c h1 h3 hc
  · have := k a c b h2 h3 hb; rw [crs_swap2]; omega
  · have := k c a b h2 h1 hb; rw [crs_swap2, crs_swap]; omega
  · have := k b a c h1 h2 hc; rw [crs_swap]; omega
  · have := k b c a h3 h2 ha; rw [crs_swap, crs_swap2]; omega
  · have := k c b a h3 h1 ha; rw [crs_swap, crs_swap2, crs_swap]; omega
theorem GP.turn {l : List Pt} (g : GP l) {a b c : Nat} (ha : a < l.length) (hb : b < l.length) (hc : c < l.length) (hab : a ≠ b) (hac : a ≠ c) (hbc : b ≠ c) : ptT l a b c = 1 ∨ ptT l a b c = -1 := by
  have := g.all ha hb hc hab hac hbc
  rcases sgn_cases (crs (gp l a) (gp l b) (gp l c)) with h | h | h
  · exact .inl h.2
  · exact .inr h.2
  · exact absurd h.1 this

/-! ### letters told by the turns of a < b < c -/
/-- the turn of three different posts, from those in order -/
def tn (f : Nat → Nat → Nat → Int) (a b c : Nat) : Int :=
  if a < b then (if b < c then f a b c else if a < c then - f a c b else f c a b)
  else (if a < c then - f b a c else if b < c then f b c a else - f c b a)
theorem tn_pt (l : List Pt) (a b c : Nat) : tn (ptT l) a b c = ptT l a b c := by
  unfold tn
  split <;> split <;> try split
  · rfl
  · rw [ptT_swap2]; omega
  · rw [ptT_swap, ptT_swap2]; omega
  · rw [ptT_swap]; omega
  · rw [ptT_swap2, ptT_swap]; omega
  · rw [ptT_swap2, ptT_swap, ptT_swap2]; omega
/-- the rule on four -/
def R4 (f : Nat → Nat → Nat → Int) (n : Nat) : Prop := ∀ w a b c, w < a → a < b → b < c → c < n →
  ¬(f w a b = 1 ∧ f w a c ≠ 1 ∧ f w b c = 1 ∧ f a b c ≠ 1) ∧ ¬(f w a b ≠ 1 ∧ f w a c = 1 ∧ f w b c ≠ 1 ∧ f a b c = 1)
/-- the rule on five breaks -/
def brk5 (t : Nat → Nat → Nat → Int) (x a b c d : Nat) : Prop := t x a b * t x c d = - t x a c * t x b d ∧ - t x a c * t x b d = t x a d * t x b c ∧ t x a d * t x b c ≠ 0
theorem pt_r4 {l : List Pt} (g : GP l) : R4 (ptT l) l.length := by
  intro w a b c h1 h2 h3 h4
  have e := crs4 (gp l w) (gp l a) (gp l b) (gp l c)
  have k1 := g.cr w a b h1 h2 (by omega)
  have k2 := g.cr w a c h1 (by omega) (by omega)
  have k3 := g.cr w b c (by omega) h3 (by omega)
  have k4 := g.cr a b c h2 h3 (by omega)
  unfold ptT
  rcases sgn_cases (crs (gp l w) (gp l a) (gp l b)) with h | h | h <;> rcases sgn_cases (crs (gp l w) (gp l a) (gp l c)) with i | i | i <;> rcases sgn_cases (crs (gp l w) (gp l b) (gp l c)) with j | j | j <;> rcases sgn_cases (crs (gp l a) (gp l b) (gp l c)) with k | k | k <;> omega
theorem sgn_mul (x y : Int) : sgn (x * y) = sgn x * sgn y := by
  rcases sgn_cases x with ⟨h, e⟩ | ⟨h, e⟩ | ⟨h, e⟩ <;> rcases sgn_cases y with ⟨i, f⟩ | ⟨i, f⟩ | ⟨i, f⟩ <;> rw [e, f]
  · have := Int.mul_pos h i
    rcases sgn_cases (x * y) with q | q | q <;> omega
  · have := Int.mul_neg_of_pos_of_neg h i
    rcases sgn_cases (x * y) with q | q | q <;> omega
  · subst i; simp [sgn]
  · have := Int.mul_neg_of_neg_of_pos h i
    rcases sgn_cases (x * y) with q | q | q <;> omega
  · have := Int.mul_pos_of_neg_of_neg h i
    rcases sgn_cases (x * y) with q | q | q <;> omega
  · subst i; simp [sgn]
  all_goals (subst h; simp [sgn])
theorem pt_r5 {l : List Pt} {x a b c d : Nat} : ¬ brk5 (ptT l) x a b c d := by
  intro h
  obtain ⟨h1, h2, h3⟩ := h
  have e := crs5 (gp l x) (gp l a) (gp l b) (gp l c) (gp l d)
  unfold ptT at h1 h2 h3
  rw [Int.neg_mul, ← sgn_mul, ← sgn_mul, ← sgn_neg] at h1
  rw [Int.neg_mul, ← sgn_mul, ← sgn_mul, ← sgn_neg] at h2
  rw [← sgn_mul] at h3
  generalize crs (gp l x) (gp l a) (gp l b) * crs (gp l x) (gp l c) (gp l d) = u at *
  generalize crs (gp l x) (gp l a) (gp l c) * crs (gp l x) (gp l b) (gp l d) = v at *
  generalize crs (gp l x) (gp l a) (gp l d) * crs (gp l x) (gp l b) (gp l c) = w at *
  rcases sgn_cases u with h | h | h <;> rcases sgn_cases (-v) with i | i | i <;> rcases sgn_cases w with j | j | j <;> omega
end Mir
namespace Mir
open PySem PySem.Spec L2

def c_position (p_a p_b p_c : D) : Ctl Unit Unit := M.bindC (b2 pyAdd (b2 pyAdd (b2 pyDiv (b2 pyMul (b2 pyMul (.ok p_c) (b2 pySub (.ok p_c) (.ok (.int 1)))) (b2 pySub (.ok p_c) (.ok (.int 2)))) (.ok (.int 6))) (b2 pyDiv (b2 pyMul (.ok p_b) (b2 pySub (.ok p_b) (.ok (.int 1)))) (.ok (.int 2)))) (.ok p_a)) () Ctl.ret
def m_position : List D → M D := ar3 c_position
def c_turn_of (p_letters p_a p_b p_c : D) : Ctl Unit Unit := M.bindC (.ok (.int 1)) () fun v1_sign => (M.bindC (b1 isB (b2 pyGt (.ok p_a) (.ok p_b))) () fun c => if c = true then (M.bindC (mlist [.ok p_b, .ok p_a, b1 pyNeg (.ok v1_sign)]) () fun v6_vs => unL3 .stk v6_vs fun v3_a v4_b v5_sign => .nx (v3_a, v4_b, v5_sign)) else (.nx (p_a, p_b, v1_sign)) : Ctl Unit (D × D × D)).bind fun (v2_j : D × D × D) => (M.bindC (b1 isB (b2 pyGt (.ok v2_j.2.1) (.ok p_c))) () fun c => if c = true then (M.bindC (mlist [.ok p_c, .ok v2_j.2.1, b1 pyNeg (.ok v2_j.2.2)]) () fun v11_vs => unL3 .stk v11_vs fun v8_b v9_c v10_sign => .nx (v8_b, v9_c, v10_sign)) else (.nx (v2_j.2.1, p_c, v2_j.2.2)) : Ctl Unit (D × D × D)).bind fun (v7_j : D × D × D) => (M.bindC (b1 isB (b2 pyGt (.ok v2_j.1) (.ok v7_j.1))) () fun c => if c = true then (M.bindC (mlist [.ok v7_j.1, .ok v2_j.1, b1 pyNeg (.ok v7_j.2.2)]) () fun v16_vs => unL3 .stk v16_vs fun v13_a v14_b v15_sign => .nx (v13_a, v14_b, v15_sign)) else (.nx (v2_j.1, v7_j.1, v7_j.2.2)) : Ctl Unit (D × D × D)).bind fun (v12_j : D × D × D) => M.bindC (b2 pyIx (.ok p_letters) (b1 m_position (mlist [.ok v12_j.1, .ok v12_j.2.1, .ok v7_j.2.1]))) () fun v17_letter => M.bindC (b1 isB (b2 pyEq (.ok v17_letter) (.ok (.str "?")))) () fun c => if c = true then (M.bindC (.ok (.int 0)) () Ctl.ret) else M.bindC (ifM (b1 isB (b2 pyEq (.ok v17_letter) (.ok (.str "L")))) (.ok v12_j.2.2) (b1 pyNeg (.ok v12_j.2.2))) () Ctl.ret
def m_turn_of : List D → M D := ar4 c_turn_of
def c_breaks_five (p_letters p_x p_a p_b p_c p_d : D) : Ctl Unit Unit := M.bindC (b2 pyMul (b1 m_turn_of (mlist [.ok p_letters, .ok p_x, .ok p_a, .ok p_b])) (b1 m_turn_of (mlist [.ok p_letters, .ok p_x, .ok p_c, .ok p_d]))) () fun v1_first => M.bindC (b2 pyMul (b1 pyNeg (b1 m_turn_of (mlist [.ok p_letters, .ok p_x, .ok p_a, .ok p_c]))) (b1 m_turn_of (mlist [.ok p_letters, .ok p_x, .ok p_b, .ok p_d]))) () fun v2_second => M.bindC (b2 pyMul (b1 m_turn_of (mlist [.ok p_letters, .ok p_x, .ok p_a, .ok p_d])) (b1 m_turn_of (mlist [.ok p_letters, .ok p_x, .ok p_b, .ok p_c]))) () fun v3_third => M.bindC (chM3 pyEq pyEq pyNe (.ok v1_first) (.ok v2_second) (.ok v3_third) (.ok (.int 0))) () Ctl.ret
def m_breaks_five : List D → M D := ar6 c_breaks_five
def c_threes (p_posts : D) : Ctl Unit Unit := M.bindC (lcM (b1 pyRange1 (mlist [.ok p_posts])) (fun v1_c => inM (.ok true) (b1 pyRange1 (mlist [.ok v1_c])) (fun v2_b => inM (.ok true) (b1 pyRange1 (mlist [.ok v2_b])) (fun v3_a => elM (.ok true) (b1 mkTup (mlist [.ok v3_a, .ok v2_b, .ok v1_c])))))) () Ctl.ret
def m_threes : List D → M D := ar1 c_threes
def c_check_posts (p_posts p_named : D) : Ctl Unit Unit := M.bindC (b1 pyEnum (mlist [.ok p_named])) () fun v5_ds => (forC (X := Unit) (S := Unit) (fun v2_t (v1_j : Unit) => un2 .stk v2_t fun v3_k v4_post => M.bindC (orM (notM (b1 isB (chM pyLe pyLt (.ok (.int 0)) (.ok v4_post) (.ok p_posts)))) (b1 isB (b2 (memD false) (.ok v4_post) (slM (.ok p_named) (.ok none) (b1 someI (.ok v3_k)))))) () fun c => if c = true then (.exn ⟨1, []⟩ ()) else .nx ()) v5_ds ()).bind fun (v1_j : Unit) => .nx ()
def m_check_posts : List D → M D := ar2 c_check_posts
def c_check_passing (p_posts p_passing : D) : Ctl Unit Unit := M.bindC (b1 isB (b2 pyNe (b1 pyLen (mlist [.ok p_passing])) (.ok (.int 3)))) () fun c => if c = true then (.exn ⟨1, []⟩ ()) else M.bindC (b1 m_check_posts (mlist [.ok p_posts, .ok p_passing])) () fun _ => .nx ()
def m_check_passing : List D → M D := ar2 c_check_passing
def c_last_breach (p_letters p_a p_b p_c : D) : Ctl Unit Unit := M.bindC (b1 pyRange1 (mlist [.ok p_a])) () fun v23_ds => (forC (X := Unit) (S := Unit) (fun v2_w (v1_j : Unit) => M.bindC (b1 mkLst (mlist [b1 mkTup (mlist [.ok v2_w, .ok p_a, .ok p_b]), b1 mkTup (mlist [.ok v2_w, .ok p_a, .ok p_c]), b1 mkTup (mlist [.ok v2_w, .ok p_b, .ok p_c]), b1 mkTup (mlist [.ok p_a, .ok p_b, .ok p_c])])) () fun v3_four => M.bindC (b1 isB (b2 (memD false) (b2s pyJoin (.ok (.str "")) (lcM (b1 pyItems (.ok v3_four)) (fun v4_t => un3 .stk v4_t fun v5_p v6_q v7_r => elM (.ok true) (b2 pyIx (.ok p_letters) (b1 m_position (mlist [.ok v5_p, .ok v6_q, .ok v7_r])))))) (b1 mkTup (mlist [.ok (.str "LRLR"), .ok (.str "RLRL")])))) () fun c => if c = true then (M.bindC (b1 mkTup (mlist [.ok v2_w, .ok p_a, .ok p_b, .ok p_c])) () Ctl.ret) else .nx ()) v23_ds ()).bind fun (v1_j : Unit) => M.bindC (b1 pyRange1 (mlist [.ok p_a])) () fun v22_ds => (forC (X := Unit) (S := Unit) (fun v9_w (v8_j : Unit) => M.bindC (b1 pyRange1 (mlist [.ok v9_w])) () fun v21_ds => (forC (X := Unit) (S := Unit) (fun v11_v (v10_j : Unit) => M.bindC (b1 pyItems (b1 mkTup (mlist [.ok v11_v, .ok v9_w, .ok p_a, .ok p_b, .ok p_c]))) () fun v20_ds => (forC (X := Unit) (S := Unit) (fun v13_x (v12_j : Unit) => M.bindC (lcM (b1 pyItems (b1 mkTup (mlist [.ok v11_v, .ok v9_w, .ok p_a, .ok p_b, .ok p_c]))) (fun v14_post => elM (b1 isB (b2 pyNe (.ok v14_post) (.ok v13_x))) (.ok v14_post))) () fun v15_t => un4 .stk v15_t fun v16_p v17_q v18_r v19_s => M.bindC (b1 pyTruth (b1 m_breaks_five (mlist [.ok p_letters, .ok v13_x, .ok v16_p, .ok v17_q, .ok v18_r, .ok v19_s]))) () fun c => if c = true then (M.bindC (b1 mkTup (mlist [.ok v13_x, .ok v16_p, .ok v17_q, .ok v18_r, .ok v19_s])) () Ctl.ret) else .nx ()) v20_ds ()).bind fun (v12_j : Unit) => .nx ()) v21_ds ()).bind fun (v10_j : Unit) => .nx ()) v22_ds ()).bind fun (v8_j : Unit) => M.bindC (.ok .non) () Ctl.ret
def m_last_breach : List D → M D := ar4 c_last_breach
def c_breach (p_letters p_posts : D) : Ctl Unit Unit := M.bindC (b1 pyItems (b1 m_threes (mlist [.ok p_posts]))) () fun v7_ds => (forC (X := Unit) (S := Unit) (fun v2_t (v1_j : Unit) => un3 .stk v2_t fun v3_a v4_b v5_c => M.bindC (b1 m_last_breach (mlist [.ok p_letters, .ok v3_a, .ok v4_b, .ok v5_c])) () fun v6_found => M.bindC (b1 isB (b2 pyIsNot (.ok v6_found) (.ok .non))) () fun c => if c = true then (M.bindC (.ok v6_found) () Ctl.ret) else .nx ()) v7_ds ()).bind fun (v1_j : Unit) => M.bindC (.ok .non) () Ctl.ret
def m_breach : List D → M D := ar2 c_breach
def c_Table___init (p_letters : D) : Ctl Unit FsD := M.bindC (orM (notM (b1 pyTruth (b1 (isiD [("NoneType", false), ("bool", false), ("int", false), ("str", true), ("list", false), ("tuple", false)] [(1, false)]) (.ok p_letters)))) (orM (b1 isB (b1 (kdIn [(1, 3), (4, 4), (10, 5), (20, 6), (35, 7), (56, 8)] true) (b1 pyLen (mlist [.ok p_letters])))) (b1 isB (b2 pyNe (b2s pyStripC (.ok p_letters) (.ok (.str "LR"))) (.ok (.str "")))))) () fun c => if c = true then (.exn ⟨1, []⟩ ()) else M.bindC (b1 (kdGet [(1, 3), (4, 4), (10, 5), (20, 6), (35, 7), (56, 8)]) (b1 pyLen (mlist [.ok p_letters]))) () fun v1_posts => M.bindC (b1 m_breach (mlist [.ok p_letters, .ok v1_posts])) () fun v2_found => M.bindC (b1 isB (b2 pyIsNot (.ok v2_found) (.ok .non))) () fun c => if c = true then (M.bindC (mlist [.ok v2_found]) () (exnF 3 "posts" ())) else M.bindC (fsetM "letters" ([]) (.ok p_letters)) () fun v3_self => M.bindC (fsetM "posts" v3_self (.ok v1_posts)) () fun v4_self => .nx v4_self
def m_Table___init : List D → M FsD := arF1 c_Table___init
def c_Table___getitem (p_self p_at : D) : Ctl Unit Unit := M.bindC (.ok p_at) () fun v1_t => un3 .stk v1_t fun v2_a v3_b v4_c => M.bindC (b1 m_check_posts (mlist [b1 (pyFld 1 "posts") (.ok p_self), b1 mkTup (mlist [.ok v2_a, .ok v3_b, .ok v4_c])])) () fun _ => M.bindC (b1 m_turn_of (mlist [b1 (pyFld 1 "letters") (.ok p_self), .ok v2_a, .ok v3_b, .ok v4_c])) () Ctl.ret
def m_Table___getitem : List D → M D := ar2 c_Table___getitem
def c_Table___contains (p_self p_x : D) : Ctl Unit Unit := M.bindC (.ok p_x) () fun v1_t => un3 .stk v1_t fun v2_a v3_b v4_c => M.bindC (b1 m_check_posts (mlist [b1 (pyFld 1 "posts") (.ok p_self), b1 mkTup (mlist [.ok v2_a, .ok v3_b, .ok v4_c])])) () fun _ => M.bindC (b2 pyEq (b1 m_turn_of (mlist [b1 (pyFld 1 "letters") (.ok p_self), .ok v2_a, .ok v3_b, .ok v4_c])) (.ok (.int 1))) () Ctl.ret
def m_Table___contains : List D → M D := ar2 c_Table___contains
def c_l_pool (p_script : D) : Ctl Unit Unit := M.bindC (b1 mkLst (mlist [])) () fun v1_pool_here => M.bindC (b1 pyItems (.ok p_script)) () fun v17_ds => (forC (X := Unit) (S := D) (fun v3_cell (v2_j : D) => M.bindC (.ok v3_cell) () fun v4_rest => (M.bindC (b1 isB (b2 pyGe (.ok v3_cell) (b2 pyPow (.ok (.int 10)) (.ok (.int 18))))) () fun c => if c = true then (M.bindC (b1 pyRange1 (mlist [.ok (.int 60)])) () fun v11_ds => (forC (X := Unit) (S := D × D) (fun v7_k (v6_j : D × D) => (M.bindC (b1 isB (b2 pyGt (.ok v6_j.2) (.ok (.int 0)))) () fun c => if c = true then (M.bindC (appM v6_j.1 (b2 pyMod (b1 pyInt (mlist [.ok v6_j.2])) (.ok (.int 1000000)))) () fun v9_pool_here => M.bindC (b2 pyDiv (.ok v6_j.2) (.ok (.int 1000000))) () fun v10_rest => .nx (v9_pool_here, v10_rest)) else (.nx (v6_j.1, v6_j.2)) : Ctl Unit (D × D)).bind fun (v8_j : D × D) => .nx (v8_j.1, v8_j.2)) v11_ds (v2_j, v4_rest)).bind fun (v6_j : D × D) => .nx v6_j.1) else (M.bindC (b1 pyRange1 (mlist [.ok (.int 10)])) () fun v16_ds => (forC (X := Unit) (S := D) (fun v13_k (v12_j : D) => M.bindC (b2 pyMod (b1 pyInt (mlist [b2 pyAdd (b2 pyAdd (b2 pyMul (.ok v3_cell) (.ok (.int 48271))) (b2 pyMul (.ok v13_k) (.ok (.int 69621)))) (.ok (.int 11))])) (.ok (.int 2147483647))) () fun v14_mixed => M.bindC (appM v12_j (b2 pyDiv (b2 pyMod (b1 pyInt (mlist [b2 pyAdd (b2 pyMul (.ok v14_mixed) (.ok (.int 40692))) (.ok v13_k)])) (.ok (.int 2147483399))) (.ok (.int 97)))) () fun v15_pool_here => .nx v15_pool_here) v16_ds v2_j).bind fun (v12_j : D) => .nx v12_j) : Ctl Unit D).bind fun (v5_j : D) => .nx v5_j) v17_ds v1_pool_here).bind fun (v2_j : D) => M.bindC (.ok v2_j) () Ctl.ret
def m_l_pool : List D → M D := ar1 c_l_pool
def c_l_draw (p_pool_here p_k p_many : D) : Ctl Unit Unit := M.bindC (b1 isB (b2 pyLt (.ok p_k) (b1 pyLen (mlist [.ok p_pool_here])))) () fun c => if c = true then (M.bindC (b2 pyMod (b1 pyInt (mlist [b2 pyIx (.ok p_pool_here) (.ok p_k)])) (.ok p_many)) () Ctl.ret) else M.bindC (.ok (.int 0)) () Ctl.ret
def m_l_draw : List D → M D := ar3 c_l_draw
def c_l_cross (p_p p_q p_r : D) : Ctl Unit Unit := M.bindC (b2 pySub (b2 pyMul (b2 pySub (b2 pyIx (.ok p_q) (.ok (.int 0))) (b2 pyIx (.ok p_p) (.ok (.int 0)))) (b2 pySub (b2 pyIx (.ok p_r) (.ok (.int 1))) (b2 pyIx (.ok p_p) (.ok (.int 1))))) (b2 pyMul (b2 pySub (b2 pyIx (.ok p_q) (.ok (.int 1))) (b2 pyIx (.ok p_p) (.ok (.int 1)))) (b2 pySub (b2 pyIx (.ok p_r) (.ok (.int 0))) (b2 pyIx (.ok p_p) (.ok (.int 0)))))) () Ctl.ret
def m_l_cross : List D → M D := ar3 c_l_cross
def c_l_free (p_places_here p_spot : D) : Ctl Unit Unit := M.bindC (b1 pyRange1 (mlist [b1 pyLen (mlist [.ok p_places_here])])) () fun v6_ds => (forC (X := Unit) (S := Unit) (fun v2_k (v1_j : Unit) => M.bindC (b1 isB (b2 pyEq (b2 pyIx (.ok p_places_here) (.ok v2_k)) (.ok p_spot))) () fun c => if c = true then (M.bindC (.ok (.bl false)) () Ctl.ret) else M.bindC (b1 pyRange1 (mlist [.ok v2_k])) () fun v5_ds => (forC (X := Unit) (S := Unit) (fun v4_j (v3_j : Unit) => M.bindC (b1 isB (b2 pyEq (b1 m_l_cross (mlist [b2 pyIx (.ok p_places_here) (.ok v4_j), b2 pyIx (.ok p_places_here) (.ok v2_k), .ok p_spot])) (.ok (.int 0)))) () fun c => if c = true then (M.bindC (.ok (.bl false)) () Ctl.ret) else .nx ()) v5_ds ()).bind fun (v3_j : Unit) => .nx ()) v6_ds ()).bind fun (v1_j : Unit) => M.bindC (.ok (.bl true)) () Ctl.ret
def m_l_free : List D → M D := ar2 c_l_free
def c_l_places (p_pool_here p_at p_posts : D) : Ctl Unit Unit := M.bindC (b1 mkLst (mlist [])) () fun v1_places_here => M.bindC (b1 pyRange1 (mlist [.ok p_posts])) () fun v11_ds => (forC (X := Unit) (S := D) (fun v3_k (v2_j : D) => M.bindC (b1 m_l_draw (mlist [.ok p_pool_here, b2 pyAdd (.ok p_at) (b2 pyMul (.ok (.int 2)) (.ok v3_k)), .ok (.int 1000)])) () fun v4_x => M.bindC (b1 m_l_draw (mlist [.ok p_pool_here, b2 pyAdd (b2 pyAdd (.ok p_at) (b2 pyMul (.ok (.int 2)) (.ok v3_k))) (.ok (.int 1)), .ok (.int 1000)])) () fun v5_y => M.bindC (b1 pyRange1 (mlist [.ok (.int 60)])) () fun v10_ds => (forC (X := Unit) (S := D) (fun v7_j (v6_j : D) => (M.bindC (nofs (andM (b1 isB (b2 pyEq (b1 pyLen (mlist [.ok v6_j])) (.ok v3_k))) (b1 pyTruth (b1 m_l_free (mlist [.ok v6_j, b1 mkTup (mlist [b2 pyAdd (.ok v4_x) (.ok v7_j), b2 pyAdd (.ok v5_y) (b2 pyMul (.ok v7_j) (.ok v7_j))])]))))) () fun c => if c = true then (M.bindC (appM v6_j (b1 mkTup (mlist [b2 pyAdd (.ok v4_x) (.ok v7_j), b2 pyAdd (.ok v5_y) (b2 pyMul (.ok v7_j) (.ok v7_j))]))) () fun v9_places_here => .nx v9_places_here) else (.nx v6_j) : Ctl Unit D).bind fun (v8_j : D) => .nx v8_j) v10_ds v2_j).bind fun (v6_j : D) => .nx v6_j) v11_ds v1_places_here).bind fun (v2_j : D) => M.bindC (.ok v2_j) () Ctl.ret
def m_l_places : List D → M D := ar3 c_l_places
def c_l_turns (p_places_here : D) : Ctl Unit Unit := M.bindC (.ok (.dct [])) () fun v1_turns_here => M.bindC (b1 pyRange1 (mlist [b1 pyLen (mlist [.ok p_places_here])])) () fun v13_ds => (forC (X := Unit) (S := D) (fun v3_a (v2_j : D) => M.bindC (b1 pyRange1 (mlist [b1 pyLen (mlist [.ok p_places_here])])) () fun v12_ds => (forC (X := Unit) (S := D) (fun v5_b (v4_j : D) => M.bindC (b1 pyRange1 (mlist [b1 pyLen (mlist [.ok p_places_here])])) () fun v11_ds => (forC (X := Unit) (S := D) (fun v7_c (v6_j : D) => (M.bindC (andM (b1 isB (b2 pyNe (.ok v3_a) (.ok v5_b))) (andM (b1 isB (b2 pyNe (.ok v3_a) (.ok v7_c))) (b1 isB (b2 pyNe (.ok v5_b) (.ok v7_c))))) () fun c => if c = true then (M.bindC (b1 m_l_cross (mlist [b2 pyIx (.ok p_places_here) (.ok v3_a), b2 pyIx (.ok p_places_here) (.ok v5_b), b2 pyIx (.ok p_places_here) (.ok v7_c)])) () fun v9_size => M.bindC (setM v6_j (b2 pySub (b1 pyInt (mlist [b2 pyGt (.ok v9_size) (.ok (.int 0))])) (b1 pyInt (mlist [b2 pyLt (.ok v9_size) (.ok (.int 0))]))) (b1 mkTup (mlist [.ok v3_a, .ok v5_b, .ok v7_c]))) () fun v10_turns_here => .nx v10_turns_here) else (.nx v6_j) : Ctl Unit D).bind fun (v8_j : D) => .nx v8_j) v11_ds v4_j).bind fun (v6_j : D) => .nx v6_j) v12_ds v2_j).bind fun (v4_j : D) => .nx v4_j) v13_ds v1_turns_here).bind fun (v2_j : D) => M.bindC (.ok v2_j) () Ctl.ret
def m_l_turns : List D → M D := ar1 c_l_turns
def c_l_letters (p_turns_here p_posts : D) : Ctl Unit Unit := M.bindC (.ok (.str "")) () fun v1_letters_here => M.bindC (b1 pyRange1 (mlist [.ok p_posts])) () fun v11_ds => (forC (X := Unit) (S := D) (fun v3_c (v2_j : D) => M.bindC (b1 pyRange1 (mlist [.ok v3_c])) () fun v10_ds => (forC (X := Unit) (S := D) (fun v5_b (v4_j : D) => M.bindC (b1 pyRange1 (mlist [.ok v5_b])) () fun v9_ds => (forC (X := Unit) (S := D) (fun v7_a (v6_j : D) => M.bindC (b2 pyAdd (.ok v6_j) (b2 pyIx (b1 mkLst (mlist [.ok (.str "R"), .ok (.str "L")])) (b1 pyInt (mlist [b2 pyEq (b2 pyIx (.ok p_turns_here) (b1 mkTup (mlist [.ok v7_a, .ok v5_b, .ok v3_c]))) (.ok (.int 1))])))) () fun v8_letters_here => .nx v8_letters_here) v9_ds v4_j).bind fun (v6_j : D) => .nx v6_j) v10_ds v2_j).bind fun (v4_j : D) => .nx v4_j) v11_ds v1_letters_here).bind fun (v2_j : D) => M.bindC (.ok v2_j) () Ctl.ret
def m_l_letters : List D → M D := ar2 c_l_letters
def c_l_refused (p_table p_door p_three : D) : Ctl Unit Unit := M.bindC (.ok .non) () fun v1_told => (Ctl.tryC (X := Unit) (Y := D) (S := Unit) ((M.bindC (b1 isB (b2 pyEq (.ok p_door) (.ok (.int 0)))) v1_told fun c => if c = true then (M.bindC (b2 (subO 1 m_Table___getitem) (.ok p_table) (b1 mkTup (mlist [b2 pyIx (.ok p_three) (.ok (.int 0)), b2 pyIx (.ok p_three) (.ok (.int 1)), b2 pyIx (.ok p_three) (.ok (.int 2))]))) v1_told fun v5_told => .nx v5_told) else (M.bindC (b2 (inO 1 m_Table___contains false) (b1 mkTup (mlist [b2 pyIx (.ok p_three) (.ok (.int 0)), b2 pyIx (.ok p_three) (.ok (.int 1)), b2 pyIx (.ok p_three) (.ok (.int 2))])) (.ok p_table)) v1_told fun v6_told => .nx v6_told) : Ctl D D).bind fun (v4_j : D) => .nx ()) [false, true, false, false, false, false] (fun (e : Exc) (v2_y : D) => M.bindC (orM (b1 pyTruth (isEx [false, false, true, false, false, false] e)) (orM (b1 pyTruth (isEx [false, false, false, true, false, false] e)) (orM (b1 pyTruth (isEx [false, false, false, false, true, false] e)) (b1 pyTruth (isEx [false, false, false, false, false, true] e))))) () fun c => if c = true then (M.bindC (.ok (.bl false)) () Ctl.ret) else M.bindC (andV (b2 pyIs (.ok v2_y) (.ok .non)) (andV (isEx [true, true, true, true, true, true] e) (isEx [true, true, true, true, true, true] e))) () Ctl.ret)).bind fun (v3_j : Unit) => M.bindC (.ok (.bl false)) () Ctl.ret
def m_l_refused : List D → M D := ar3 c_l_refused
def c_law_k01 (p_script : D) : Ctl Unit Unit := M.bindC (b1 m_l_pool (mlist [.ok p_script])) () fun v1_pool_here => M.bindC (b2 pyAdd (.ok (.int 3)) (b2 pyMod (b2 pyAdd (b1 m_l_draw (mlist [.ok v1_pool_here, .ok (.int 0), .ok (.int 6)])) (.ok (.int 2))) (.ok (.int 6)))) () fun v2_posts => M.bindC (b1 m_l_turns (mlist [b1 m_l_places (mlist [.ok v1_pool_here, .ok (.int 4), .ok v2_posts])])) () fun v3_turns_here => M.bindC (b1 m_l_letters (mlist [.ok v3_turns_here, .ok v2_posts])) () fun v4_letters_here => M.bindC (b1 (mkO 1 m_Table___init) (mlist [.ok v4_letters_here])) () fun v5_table => M.bindC (orM (notM (b1 pyTruth (b1 (isiD [("NoneType", false), ("bool", false), ("int", false), ("str", true), ("list", false), ("tuple", false)] [(1, false)]) (b1 (pyFld 1 "letters") (.ok v5_table))))) (orM (b1 isB (b2 pyNe (b1 (pyFld 1 "letters") (.ok v5_table)) (.ok v4_letters_here))) (b1 isB (b2 pyNe (b1 (listO 1 "letters") (.ok v5_table)) (lcM (b1 pyItems (.ok v4_letters_here)) (fun v6_x => elM (.ok true) (.ok v6_x))))))) () fun c => if c = true then (M.bindC (.ok (.bl false)) () Ctl.ret) else M.bindC (orM (notM (b1 pyTruth (b1 (isiD [("NoneType", false), ("bool", true), ("int", true), ("str", false), ("list", false), ("tuple", false)] [(1, false)]) (b1 (pyFld 1 "posts") (.ok v5_table))))) (orM (b1 isB (b2 pyNe (b1 (pyFld 1 "posts") (.ok v5_table)) (.ok v2_posts))) (b1 isB (b2 pyNe (.ok (.int 8)) (.ok (.int 8)))))) () fun c => if c = true then (M.bindC (.ok (.bl false)) () Ctl.ret) else M.bindC (keysM v3_turns_here) () fun v13_ds => (Ctl.noX (Y := Unit) (forC (X := Unit) (S := Unit) (fun v8_key (v7_j : Unit) => M.bindC (b2 (subO 1 m_Table___getitem) (.ok v5_table) (b1 mkTup (mlist [b2 pyIx (.ok v8_key) (.ok (.int 0)), b2 pyIx (.ok v8_key) (.ok (.int 1)), b2 pyIx (.ok v8_key) (.ok (.int 2))]))) () fun v9_turn => M.bindC (orM (notM (b1 pyTruth (b1 (isiD [("NoneType", false), ("bool", true), ("int", true), ("str", false), ("list", false), ("tuple", false)] [(1, false)]) (.ok v9_turn)))) (orM (b1 pyTruth (b1 (isiD [("NoneType", false), ("bool", true), ("int", false), ("str", false), ("list", false), ("tuple", false)] [(1, false)]) (.ok v9_turn))) (b1 isB (b2 pyNe (.ok v9_turn) (b2 pyIx (.ok v3_turns_here) (.ok v8_key)))))) () fun c => if c = true then (M.bindC (.ok (.bl false)) () Ctl.ret) else M.bindC (b1 isB (b2 pyNe (b2 (inO 1 m_Table___contains false) (b1 mkTup (mlist [b2 pyIx (.ok v8_key) (.ok (.int 0)), b2 pyIx (.ok v8_key) (.ok (.int 1)), b2 pyIx (.ok v8_key) (.ok (.int 2))])) (.ok v5_table)) (b2 pyEq (b2 pyIx (.ok v3_turns_here) (.ok v8_key)) (.ok (.int 1))))) () fun c => if c = true then (M.bindC (.ok (.bl false)) () Ctl.ret) else .nx ()) v13_ds ())).bind fun (v7_j : Unit) => M.bindC (b1 mkLst (mlist [.ok (.int 0), .ok (.int 1), .ok (.int 2)])) () fun v10_bad => M.bindC (b1 m_l_draw (mlist [.ok v1_pool_here, .ok (.int 1), .ok (.int 3)])) () fun v11_spot => M.bindC (setM v10_bad (flatM (b2 pyIx (b1 mkLst (mlist [b1 pyNeg (.ok (.int 1)), .ok v2_posts, b2 pyIx (.ok v10_bad) (b2 pySub (.ok v11_spot) (.ok (.int 1)))])) (b1 m_l_draw (mlist [.ok v1_pool_here, .ok (.int 2), .ok (.int 3)])))) (flatM (.ok v11_spot))) () fun v12_bad => M.bindC (andV (b1 m_l_refused (mlist [.ok v5_table, .ok (.int 0), .ok v12_bad])) (andV (b1 m_l_refused (mlist [.ok v5_table, .ok (.int 1), .ok v12_bad])) (b2 pyEq (b1 (pyFld 1 "letters") (.ok v5_table)) (.ok v4_letters_here)))) () Ctl.ret
def m_law_k01 : List D → M D := ar1 c_law_k01
end Mir
namespace Mir
open PySem PySem.Spec L2

def intsD (l : List Int) : D := .lst (l.map D.int)
@[simp] theorem mkLst_nil : mkLst [] = .ok (.lst []) := id rfl
theorem app_ints {l : List Int} {z : Int} (h : l.length < 1000000) : appM (intsD l) (.ok (.int z)) = .ok (intsD (l ++ [z])) := by
  unfold intsD
  show (if (l.map D.int).length < sizeLine then M.ok (D.lst (l.map D.int ++ [D.int z])) else .stk) = _
  rw [if_pos (by rw [List.length_map]; exact sz_big h), List.map_append]
  rfl
/-! ### the pool -/
theorem pow_ii {a b : Int} (h : 0 ≤ b ∧ b ≤ 1000000 ∧ a.natAbs < 2 ^ 64) : pyPow (.int a) (.int b) = .ok (.int (a ^ b.toNat)) := if_pos h
abbrev PoolInv (n : Nat) (d : D) : Prop := ∃ l : List Int, d = intsD l ∧ l.length ≤ n
theorem pool_ok (ns : List Int) (hn : ns.length ≤ 63) : ∃ l : List Int, m_l_pool [.scr ns] = .ok (intsD l) ∧ l.length ≤ 3780 := by
  have main : RetIs (c_l_pool (.scr ns)) (PoolInv 3780) := by
    unfold c_l_pool
    rw [show b1 mkLst (mlist []) = .ok (.lst []) from rfl, bindC_ok, show b1 pyItems (.ok (D.scr ns)) = .ok (ns.map D.int) from rfl, bindC_ok]
    refine NxIs.ret (loop_nx (fun i d => PoolInv (60 * i) d) ⟨[], rfl, Nat.zero_le _⟩ ?_) ?_
    · rintro j d s hj ⟨l, rfl, hl⟩
      rw [List.getElem?_map] at hj
      obtain ⟨z, hz, rfl⟩ := Option.map_eq_some_iff.mp hj
      have hj' : j < ns.length := (List.getElem?_eq_some_iff.mp hz).1
      rw [bindC_ok, b2_ok, pow_ii (by decide), b2_ok, ge_ii, b1_ok, isB_bl, bindC_ok]
      by_cases hc : (10 : Int) ^ (18 : Int).toNat ≤ z
      · rw [if_pos (by simpa using hc)]
        refine NxIs.nx (P := PoolInv (60 * (j + 1))) ?_ (fun s h => .mk h)
        rw [show b1 pyRange1 (mlist [.ok (D.int 60)]) = .ok (rangeD 0 60) from rfl, bindC_ok]
        refine NxIs.nx (loopR_nx (fun i (p : D × D) => PoolInv (60 * j + i) p.1 ∧ ∃ r, p.2 = .int r) ⟨⟨l, rfl, by omega⟩, z, rfl⟩ ?_) ?_
        · rintro i ⟨p, q⟩ hi ⟨⟨l1, rfl, hl1⟩, r, rfl⟩
          refine NxIs.nx (P := fun p => PoolInv (60 * j + (i + 1)) p.1 ∧ ∃ r, p.2 = .int r) ?_ (fun s h => .mk h)
          rw [b2_ok, gt_ii, b1_ok, isB_bl, bindC_ok]
          by_cases hr : 0 < r
          · rw [if_pos (by simpa using hr)]
            rw [mlist_cons, mlist_nil, bind_ok, b1_ok, int_i, b2_ok, mod_ii (by decide), app_ints (by omega), bindC_ok, b2_ok, div_ii (by decide), bindC_ok]
            exact .mk ⟨⟨_, rfl, by rw [List.length_append, List.length_singleton]; omega⟩, _, rfl⟩
          · rw [if_neg (by simpa using hr)]
            exact .mk ⟨⟨l1, rfl, by omega⟩, r, rfl⟩
        · rintro ⟨p, q⟩ ⟨h, _⟩
          refine .mk ?_
          rw [Nat.mul_add]
          exact h
      · rw [if_neg (by simpa using hc)]
        refine NxIs.nx (P := PoolInv (60 * (j + 1))) ?_ (fun s h => .mk h)
        rw [show b1 pyRange1 (mlist [.ok (D.int 10)]) = .ok (rangeD 0 10) from rfl, bindC_ok]
        refine NxIs.nx (loopR_nx (fun i p => PoolInv (60 * j + i) p) ⟨l, rfl, by omega⟩ ?_) ?_
        · rintro i p hi ⟨l1, rfl, hl1⟩
          rw [b2_ok, mul_ii (.inr (by decide)), b2_ok, mul_ii (.inr (by decide)), b2_ok, add_ii, b2_ok, add_ii, mlist_cons, mlist_nil, bind_ok, b1_ok, int_i, b2_ok, mod_ii (by decide), bindC_ok]
          rw [b2_ok, mul_ii (.inr (by decide)), b2_ok, add_ii, mlist_cons, mlist_nil, bind_ok, b1_ok, int_i, b2_ok, mod_ii (by decide), b2_ok, div_ii (by decide), app_ints (by omega), bindC_ok]
          exact .mk ⟨_, rfl, by rw [List.length_append, List.length_singleton]; omega⟩
        · rintro p ⟨l1, rfl, h⟩
          exact .mk ⟨l1, rfl, by omega⟩
    · rintro s ⟨l, rfl, hl⟩
      rw [List.length_map] at hl
      exact .mk ⟨l, rfl, by omega⟩
  obtain ⟨d, e, l, rfl, hl⟩ := main
  refine ⟨l, ?_, hl⟩
  show (c_l_pool (.scr ns)).toM = _
  rw [e]
  rfl

/-! ### a draw -/
theorem len_ints {l : List Int} : pyLen [intsD l] = .ok (.int l.length) := by
  show M.ok (D.int (l.map D.int).length) = _
  rw [List.length_map]
theorem atI_nat {α : Type} {xs : List α} {i : Nat} {x : α} (h : xs[i]? = some x) : atI xs (i : Int) = some x := by
  have hl : i < xs.length := (List.getElem?_eq_some_iff.mp h).1
  unfold atI ixN
  rw [if_pos (by omega), if_pos (by omega)]
  exact h
theorem ix_ints {l : List Int} {k : Nat} (h : k < l.length) : pyIx (intsD l) (.int k) = .ok (.int l[k]) := by
  show ofOpt (atI (l.map D.int) (k : Int)) = _
  rw [atI_nat (x := D.int l[k]) (by rw [List.getElem?_map, List.getElem?_eq_getElem h]; rfl)]
  rfl
/-- what the draw at place k gives -/
def drawn (l : List Int) (k : Nat) (many : Int) : Int := match l[k]? with
  | some z => z % many
  | none => 0
theorem drawn_nonneg {l : List Int} {k : Nat} {many : Int} (h : 0 < many) : 0 ≤ drawn l k many := by
  unfold drawn
  split
  · exact Int.emod_nonneg _ (by omega)
  · exact Int.le_refl _
theorem drawn_lt {l : List Int} {k : Nat} {many : Int} (h : 0 < many) : drawn l k many < many := by
  unfold drawn
  split
  · exact Int.emod_lt_of_pos _ h
  · exact h
theorem draw_ok (l : List Int) (k : Nat) (many : Int) (h : 0 < many) : m_l_draw [intsD l, .int k, .int many] = .ok (.int (drawn l k many)) := by
  show (c_l_draw (intsD l) (.int k) (.int many)).toM = _
  unfold c_l_draw
  rw [mlist_cons, mlist_nil, bind_ok, b1_ok, len_ints, b2_ok, lt_ii, b1_ok, isB_bl, bindC_ok]
  by_cases hk : k < l.length
  · rw [if_pos (by simpa using hk), b2_ok, ix_ints hk, mlist_cons, mlist_nil, bind_ok, b1_ok, int_i, b2_ok, mod_ii h, bindC_ok, toM_ret]
    unfold drawn
    rw [List.getElem?_eq_getElem hk]
  · rw [if_neg (by simpa using hk), bindC_ok, toM_ret]
    unfold drawn
    rw [List.getElem?_eq_none (by omega)]
/-! ### places -/
def ptD (p : Pt) : D := .tup [.int p.1, .int p.2]
def ptsD (l : List Pt) : D := .lst (l.map ptD)
def Bd (p : Pt) : Prop := 0 ≤ p.1 ∧ p.1 ≤ 100000 ∧ 0 ≤ p.2 ∧ p.2 ≤ 100000
theorem ix_pt0 {p : Pt} : pyIx (ptD p) (.int 0) = .ok (.int p.1) := rfl
theorem ix_pt1 {p : Pt} : pyIx (ptD p) (.int 1) = .ok (.int p.2) := rfl
theorem cross_ok {p q r : Pt} (hp : Bd p) (hq : Bd q) (hr : Bd r) : m_l_cross [ptD p, ptD q, ptD r] = .ok (.int (crs p q r)) := by
  obtain ⟨p1, p2, p3, p4⟩ := hp
  obtain ⟨q1, q2, q3, q4⟩ := hq
  show (c_l_cross (ptD p) (ptD q) (ptD r)).toM = _
  unfold c_l_cross
  simp only [b2_ok, ix_pt0, ix_pt1, sub_ii]
  rw [mul_ii (.inl (by omega)), mul_ii (.inl (by omega)), b2_ok, sub_ii, bindC_ok, toM_ret]
  rfl
theorem shaped_pt {x y : Int} : SeqAt.shaped (.tuple [.int x, .int y]) = true := by
  unfold SeqAt.shaped
  simp [PyData.canLay0, PyData.depth, PyData.canLayAll0, PyData.depthAll]
theorem toPy_pt {p : Pt} : toPy (D.tup [.int p.1, .int p.2]) = some (.tuple [.int p.1, .int p.2]) := by simp [toPy, toPys]
theorem eq_pt {p q : Pt} : pyEq (ptD p) (ptD q) = .ok (.bl (decide (p = q))) := by
  unfold pyEq eqD ptD
  rw [if_neg (fun z => by cases z), toPy_pt, toPy_pt]
  dsimp only
  rw [if_pos ⟨shaped_pt, shaped_pt⟩, b1_ok]
  have : PyData.eqv (.tuple [.int p.1, .int p.2]) (.tuple [.int q.1, .int q.2]) = decide (p = q) := by
    obtain ⟨a, b⟩ := p
    obtain ⟨c, d⟩ := q
    simp [PyData.eqv, PyData.eqvAll, Prod.ext_iff]
    rw [Bool.eq_iff_iff]
    simp
  rw [this]
theorem loop_any {f : D → Unit → Ctl Unit Unit} {r : D} : ∀ {ds : List D} (bad : Nat → Bool), (∀ (j : Nat) d, ds[j]? = some d → f d () = if bad j = true then .ret r else .nx ()) → forC f ds () = if (List.range ds.length).any bad = true then .ret r else .nx ()
  | [], bad, _ => rfl
  | d :: ds, bad, h => by
    show (f d ()).bind (forC f ds) = _
    rw [h 0 d rfl]
    have ih := loop_any (f := f) (r := r) (ds := ds) (fun j => bad (j + 1)) fun j d hj => h (j + 1) d (by simpa using hj)
    have e : (List.range (d :: ds).length).any bad = (bad 0 || (List.range ds.length).any fun j => bad (j + 1)) := by
      rw [List.length_cons, List.range_succ_eq_map, List.any_cons, List.any_map]
      rfl
    rw [e]
    cases hb : bad 0 with
    | true => simp
    | false =>
      simp only [Bool.false_eq_true, if_false, Bool.false_or, ctl_nx]
      exact ih
theorem loopR_any {f : D → Unit → Ctl Unit Unit} {r : D} {n : Nat} (bad : Nat → Bool) (h : ∀ j : Nat, j < n → f (.int j) () = if bad j = true then .ret r else .nx ()) : forC f (rangeD 0 n) () = if (List.range n).any bad = true then .ret r else .nx () := by
  have := loop_any (f := f) (r := r) (ds := rangeD 0 n) bad fun j d hj => by
    obtain ⟨hl, rfl⟩ := range_at hj
    rw [Int.zero_add]
    exact h j hl
  rw [range_len] at this
  exact this
/-! ### a free spot -/
theorem len_pts {l : List Pt} : pyLen [ptsD l] = .ok (.int l.length) := by
  show M.ok (D.int (l.map ptD).length) = _
  rw [List.length_map]
theorem ix_pts {l : List Pt} {k : Nat} (h : k < l.length) : pyIx (ptsD l) (.int k) = .ok (ptD l[k]) := by
  show ofOpt (atI (l.map ptD) (k : Int)) = _
  rw [atI_nat (x := ptD l[k]) (by rw [List.getElem?_map, List.getElem?_eq_getElem h]; rfl)]
  rfl
theorem gp_at {l : List Pt} {k : Nat} (h : k < l.length) : gp l k = l[k] := by unfold gp; rw [List.getD_eq_getElem?_getD, List.getElem?_eq_getElem h]; rfl
theorem ix_gp {l : List Pt} {k : Nat} (h : k < l.length) : pyIx (ptsD l) (.int k) = .ok (ptD (gp l k)) := by rw [ix_pts h, gp_at h]
theorem bd_gp {l : List Pt} (hl : ∀ p ∈ l, Bd p) {k : Nat} (h : k < l.length) : Bd (gp l k) := by rw [gp_at h]; exact hl _ (List.getElem_mem h)
theorem free_ok {l : List Pt} {s : Pt} (hl : ∀ p ∈ l, Bd p) (hs : Bd s) (hn : l.length < 1000) : m_l_free [ptsD l, ptD s] = .ok (.bl (freeB l s)) := by
  show (c_l_free (ptsD l) (ptD s)).toM = _
  unfold c_l_free
  rw [mlist_cons, mlist_nil, bind_ok, b1_ok, len_pts, mlist_cons, mlist_nil, bind_ok, b1_ok, range_i (by omega), bindC_ok, Int.toNat_natCast]
  rw [loopR_any (r := .bl false) (badK l s) fun k hk => ?_]
  · unfold freeB
    cases (List.range l.length).any (badK l s) <;> rfl
  · rw [b2_ok, ix_gp hk, b2_ok, eq_pt, b1_ok, isB_bl, bindC_ok]
    unfold badK
    by_cases he : gp l k = s
    · simp [he]
    · simp only [he, decide_false, Bool.false_eq_true, if_false, Bool.false_or]
      rw [mlist_cons, mlist_nil, bind_ok, b1_ok, range_i (by omega), bindC_ok, Int.toNat_natCast]
      rw [loopR_any (r := .bl false) (badJ l s k) fun j hj => ?_]
      · cases (List.range k).any (badJ l s k) <;> rfl
      · have hj' : j < l.length := Nat.lt_trans hj hk
        simp only [b2_ok, ix_gp hj', ix_gp hk]
        rw [mlist_cons, mlist_cons, mlist_cons, mlist_nil, bind_ok, bind_ok, bind_ok, b1_ok, cross_ok (bd_gp hl hj') (bd_gp hl hk) hs, b2_ok, eq_ii, b1_ok, isB_bl, bindC_ok, bindC_ok]
        rfl
theorem app_pts {l : List Pt} {p : Pt} (h : l.length < 1000000) : appM (ptsD l) (.ok (ptD p)) = .ok (ptsD (l ++ [p])) := by
  unfold ptsD
  show (if (l.map ptD).length < sizeLine then M.ok (D.lst (l.map ptD ++ [ptD p])) else .stk) = _
  rw [if_pos (by rw [List.length_map]; exact sz_big h), List.map_append]
  rfl
theorem places_ok (l : List Int) (at0 n : Nat) (hn : n ≤ 8) : ∃ ps : List Pt, m_l_places [intsD l, .int at0, .int n] = .ok (ptsD ps) ∧ ps.length = n ∧ GP ps ∧ ∀ p ∈ ps, Bd p := by
  have main : RetIs (c_l_places (intsD l) (.int at0) (.int n)) fun d => ∃ ps : List Pt, d = ptsD ps ∧ ps.length = n ∧ GP ps ∧ ∀ p ∈ ps, Bd p := by
    unfold c_l_places
    rw [show b1 mkLst (mlist []) = .ok (.lst []) from rfl, bindC_ok, mlist_cons, mlist_nil, bind_ok, b1_ok, range_i (by omega), bindC_ok, Int.toNat_natCast]
    refine NxIs.ret (loopR_nx (fun k d => ∃ ps : List Pt, d = ptsD ps ∧ ps.length = k ∧ GP ps ∧ ∀ p ∈ ps, Bd p) ⟨[], rfl, rfl, GP.nil, by simp⟩ ?_) ?_
    · rintro k d hk ⟨ps, rfl, hl, g, hb⟩
      have e1 : b2 pyAdd (.ok (.int at0)) (b2 pyMul (.ok (.int 2)) (.ok (.int k))) = .ok (.int ((at0 + 2 * k : Nat) : Int)) := by
        rw [b2_ok, mul_ii (.inl (by decide)), b2_ok, add_ii]
        congr 2
      rw [e1, b2_ok, add_ii]
      rw [show ((at0 + 2 * k : Nat) : Int) + 1 = ((at0 + 2 * k + 1 : Nat) : Int) by omega]
      simp only [mlist_cons, mlist_nil, bind_ok, b1_ok]
      rw [draw_ok l _ 1000 (by decide), draw_ok l _ 1000 (by decide), bindC_ok, bindC_ok]
      have hx0 := drawn_nonneg (l := l) (k := at0 + 2 * k) (many := 1000) (by decide)
      have hx1 := drawn_lt (l := l) (k := at0 + 2 * k) (many := 1000) (by decide)
      have hy0 := drawn_nonneg (l := l) (k := at0 + 2 * k + 1) (many := 1000) (by decide)
      have hy1 := drawn_lt (l := l) (k := at0 + 2 * k + 1) (many := 1000) (by decide)
      generalize drawn l (at0 + 2 * k) 1000 = x at *
      generalize drawn l (at0 + 2 * k + 1) 1000 = y at *
      rw [show pyRange1 [D.int 60] = .ok (rangeD 0 60) from rfl, bindC_ok]
      refine NxIs.nx (loopR_nx (fun j d => ∃ qs : List Pt, d = ptsD qs ∧ GP qs ∧ (∀ p ∈ qs, Bd p) ∧ ((qs = ps ∧ ∀ i, i < j → freeB ps (spotAt x y i) = false) ∨ qs.length = k + 1)) ⟨ps, rfl, g, hb, .inl ⟨rfl, by omega⟩⟩ ?_) ?_
      · rintro j d hj ⟨qs, rfl, gq, hq, hc⟩
        have hbd : Bd (spotAt x y j) := by
          have : (j : Int) * j ≤ 59 * 59 := Int.mul_le_mul (by omega) (by omega) (by omega) (by omega)
          have : 0 ≤ (j : Int) * j := Int.mul_nonneg (by omega) (by omega)
          unfold Bd spotAt
          dsimp only
          omega
        have e2 : b1 mkTup (mlist [b2 pyAdd (.ok (.int x)) (.ok (.int j)), b2 pyAdd (.ok (.int y)) (b2 pyMul (.ok (.int j)) (.ok (.int j)))]) = .ok (ptD (spotAt x y j)) := by
          rw [b2_ok, add_ii, b2_ok, mul_ii (.inl (by omega)), b2_ok, add_ii, tup2]
          rfl
        rw [e2]
        have hql : qs.length < 1000 := by
          rcases hc with ⟨rfl, _⟩ | h <;> omega
        rw [len_pts, b2_ok, eq_ii, b1_ok, isB_bl, andM_ok]
        refine NxIs.nx (P := fun d => ∃ qs : List Pt, d = ptsD qs ∧ GP qs ∧ (∀ p ∈ qs, Bd p) ∧ ((qs = ps ∧ ∀ i, i < j + 1 → freeB ps (spotAt x y i) = false) ∨ qs.length = k + 1)) ?_ (fun s h => .mk h)
        by_cases hlen : qs.length = k
        · rw [if_pos (decide_eq_true (by omega))]
          simp only [mlist_cons, mlist_nil, bind_ok, b1_ok]
          rw [free_ok hq hbd hql, b1_ok]
          have hqp : qs = ps := by
            rcases hc with ⟨h, _⟩ | h
            · exact h
            · omega
          subst hqp
          rw [show nofs (pyTruth (.bl (freeB qs (spotAt x y j)))) = .ok (freeB qs (spotAt x y j)) from rfl, bindC_ok]
          cases hf : freeB qs (spotAt x y j) with
          | true =>
            rw [if_pos rfl, app_pts (by omega), bindC_ok]
            refine .mk ⟨_, rfl, gq.snoc hf, ?_, .inr (by rw [List.length_append, List.length_singleton, hlen])⟩
            intro p hp
            rcases List.mem_append.mp hp with h | h
            · exact hq p h
            · rw [List.mem_singleton.mp h]; exact hbd
          | false =>
            rw [if_neg (by decide)]
            refine .mk ⟨_, rfl, gq, hq, .inl ⟨rfl, fun i hi => ?_⟩⟩
            rcases Nat.lt_or_ge i j with h | h
            · rcases hc with ⟨_, h'⟩ | h'
              · exact h' i h
              · omega
            · have : i = j := by omega
              subst this
              exact hf
        · rw [if_neg (by simp only [decide_eq_true_eq]; omega), show nofs (.ok false) = .ok false from rfl, bindC_ok, if_neg (by decide)]
          refine .mk ⟨_, rfl, gq, hq, .inr ?_⟩
          rcases hc with ⟨rfl, _⟩ | h'
          · omega
          · exact h'
      · rintro d ⟨qs, rfl, gq, hq, hc⟩
        refine .mk ⟨qs, rfl, ?_, gq, hq⟩
        rcases hc with ⟨rfl, h⟩ | h
        · obtain ⟨j, hj, hf⟩ := exists_free qs g (by omega) x y
          rw [h j hj] at hf
          cases hf
        · exact h
    · rintro d ⟨ps, rfl, h⟩
      exact .mk ⟨ps, rfl, h⟩
  obtain ⟨d, e, ps, rfl, h⟩ := main
  refine ⟨ps, ?_, h⟩
  show (c_l_places (intsD l) (.int at0) (.int n)).toM = _
  rw [e]
  rfl
end Mir
namespace Mir
open PySem PySem.Spec L2

/-! ### texts -/
def strD (l : List Nat) : D := .str ⟨l.toArray⟩
theorem str_len {l : List Nat} : Str.length ⟨l.toArray⟩ = l.length := by unfold Str.length; simp
theorem add_strD {l m : List Nat} (h : l.length + m.length < 1000000) : pyAdd (strD l) (strD m) = .ok (strD (l ++ m)) := by
  show (if Str.length ⟨l.toArray⟩ + Str.length ⟨m.toArray⟩ ≤ sizeLine then M.ok (D.str (⟨l.toArray⟩ ++ ⟨m.toArray⟩)) else .stk) = _
  rw [str_len, str_len, if_pos (Nat.le_of_lt (sz_big h))]
  unfold strD
  show M.ok (D.str ⟨l.toArray ++ m.toArray⟩) = _
  rw [List.append_toArray]
theorem strD_nil : D.str "" = strD [] := by unfold strD; congr 1
theorem strD_L : D.str "L" = strD [76] := by unfold strD; congr 1
theorem strD_R : D.str "R" = strD [82] := by unfold strD; congr 1

/-! ### the threes and their letters -/
abbrev T3 := Nat × Nat × Nat
def thr (n : Nat) : List T3 := (List.range n).flatMap fun c => (List.range c).flatMap fun b => (List.range b).map fun a => (a, b, c)
/-- the letter of a turn -/
def ltr (z : Int) : Nat := if z = 1 then 76 else if z = 0 then 63 else 82
def lw (n : Nat) (f : Nat → Nat → Nat → Int) : List Nat := (thr n).map fun t => ltr (f t.1 t.2.1 t.2.2)
def pos (a b c : Nat) : Nat := c * (c - 1) * (c - 2) / 6 + b * (b - 1) / 2 + a
theorem thr_len : ∀ n, n ≤ 8 → (thr n).length ≤ 56 := by decide +kernel
theorem lw_len {n : Nat} {f : Nat → Nat → Nat → Int} (h : n ≤ 8) : (lw n f).length ≤ 56 := by unfold lw; rw [List.length_map]; exact thr_len n h
theorem mem_thr {n : Nat} {t : T3} : t ∈ thr n ↔ t.1 < t.2.1 ∧ t.2.1 < t.2.2 ∧ t.2.2 < n := by
  obtain ⟨a, b, c⟩ := t
  unfold thr
  simp only [List.mem_flatMap, List.mem_range, List.mem_map, Prod.mk.injEq]
  constructor
  · rintro ⟨c', hc, b', hb, a', ha, rfl, rfl, rfl⟩
    exact ⟨ha, hb, hc⟩
  · rintro ⟨h1, h2, h3⟩
    exact ⟨c, h3, b, h2, a, h1, rfl, rfl, rfl⟩
theorem thr_pos_dec : ((List.range 9).all fun n => (List.range n).all fun c => (List.range c).all fun b => (List.range b).all fun a => decide ((thr n)[pos a b c]? = some (a, b, c))) = true := by decide +kernel
theorem thr_pos {n a b c : Nat} (hn : n ≤ 8) (hab : a < b) (hbc : b < c) (hc : c < n) : (thr n)[pos a b c]? = some (a, b, c) := by
  have h := thr_pos_dec
  simp only [List.all_eq_true, List.mem_range, decide_eq_true_eq] at h
  exact h n (by omega) c hc b hbc a hab
theorem lw_pos {n a b c : Nat} {f : Nat → Nat → Nat → Int} (hn : n ≤ 8) (hab : a < b) (hbc : b < c) (hc : c < n) : (lw n f)[pos a b c]? = some (ltr (f a b c)) := by
  unfold lw
  rw [List.getElem?_map, thr_pos hn hab hbc hc]
  rfl

/-! ### the turns -/
def key3 (a b c : Nat) : List Key := [.inl (a : Int), .inl (b : Int), .inl (c : Int)]
theorem key3_inj {a b c a' b' c' : Nat} : key3 a b c = key3 a' b' c' ↔ a = a' ∧ b = b' ∧ c = c' := by
  unfold key3
  simp only [List.cons.injEq, Sum.inl.injEq, and_true]
  omega
section
variable (n : Nat) (f : Nat → Nat → Nat → Int)
def tE (a b c : Nat) : List (List Key × D) := if a ≠ b ∧ a ≠ c ∧ b ≠ c then [(key3 a b c, .int (f a b c))] else []
def tC (a b c : Nat) : List (List Key × D) := (List.range c).flatMap (tE f a b)
def tB (a b : Nat) : List (List Key × D) := (List.range b).flatMap fun b => tC f a b n
def tA (a : Nat) : List (List Key × D) := (List.range a).flatMap fun a => tB n f a n
/-- the table of turns: all different posts -/
def turnsK : List (List Key × D) := tA n f n
end
section
variable {n : Nat} {f : Nat → Nat → Nat → Int}
theorem mem_tE {a b c : Nat} {kv : List Key × D} : kv ∈ tE f a b c ↔ a ≠ b ∧ a ≠ c ∧ b ≠ c ∧ kv = (key3 a b c, .int (f a b c)) := by
  unfold tE
  split
  · rename_i h; simp [h]
  · rename_i h
    simp only [List.not_mem_nil, false_iff]
    exact fun q => h ⟨q.1, q.2.1, q.2.2.1⟩
theorem mem_tC {a b c : Nat} {kv : List Key × D} : kv ∈ tC f a b c ↔ ∃ c', c' < c ∧ a ≠ b ∧ a ≠ c' ∧ b ≠ c' ∧ kv = (key3 a b c', .int (f a b c')) := by
  unfold tC
  simp only [List.mem_flatMap, List.mem_range, mem_tE]
theorem mem_tB {a b : Nat} {kv : List Key × D} : kv ∈ tB n f a b ↔ ∃ b' c', b' < b ∧ c' < n ∧ a ≠ b' ∧ a ≠ c' ∧ b' ≠ c' ∧ kv = (key3 a b' c', .int (f a b' c')) := by
  unfold tB
  simp only [List.mem_flatMap, List.mem_range, mem_tC]
  constructor
  · rintro ⟨b', h, c', h'⟩; exact ⟨b', c', h, h'⟩
  · rintro ⟨b', c', h, h'⟩; exact ⟨b', h, c', h'⟩
theorem mem_tA {a : Nat} {kv : List Key × D} : kv ∈ tA n f a ↔ ∃ a' b' c', a' < a ∧ b' < n ∧ c' < n ∧ a' ≠ b' ∧ a' ≠ c' ∧ b' ≠ c' ∧ kv = (key3 a' b' c', .int (f a' b' c')) := by
  unfold tA
  simp only [List.mem_flatMap, List.mem_range, mem_tB]
  constructor
  · rintro ⟨a', h, b', c', h'⟩; exact ⟨a', b', c', h, h'⟩
  · rintro ⟨a', b', c', h, h'⟩; exact ⟨a', h, b', c', h'⟩
theorem len_flat {α β : Type} {g : α → List β} {k : Nat} : ∀ {l : List α}, (∀ x ∈ l, (g x).length ≤ k) → (l.flatMap g).length ≤ l.length * k
  | [], _ => by simp
  | x :: l, h => by
    have := len_flat (g := g) (l := l) fun y hy => h y (by simp [hy])
    have := h x (by simp)
    rw [List.flatMap_cons, List.length_append, List.length_cons, Nat.succ_mul]
    omega
theorem len_tC {a b c : Nat} (hc : c ≤ 8) : (tC f a b c).length ≤ 8 := by
  have := len_flat (g := tE f a b) (k := 1) (l := List.range c) fun x _ => by unfold tE; split <;> simp
  unfold tC
  rw [List.length_range] at this
  omega
theorem len_tB {a b : Nat} (hn : n ≤ 8) (hb : b ≤ 8) : (tB n f a b).length ≤ 64 := by
  have := len_flat (g := fun b => tC f a b n) (k := 8) (l := List.range b) fun x _ => len_tC hn
  unfold tB
  rw [List.length_range] at this
  omega
theorem len_tA {a : Nat} (hn : n ≤ 8) (ha : a ≤ 8) : (tA n f a).length ≤ 512 := by
  have := len_flat (g := fun a => tB n f a n) (k := 64) (l := List.range a) fun x _ => len_tB hn hn
  unfold tA
  rw [List.length_range] at this
  omega
end
theorem put_new {κ : Type} [DecidableEq κ] {kvs : List (κ × D)} {k : κ} {v : D} (h : ∀ kv ∈ kvs, kv.1 ≠ k) : putD kvs k v = kvs ++ [(k, v)] := by
  unfold putD
  rw [if_neg]
  rw [List.any_eq_true]
  rintro ⟨kv, hm, hk⟩
  exact h kv hm (of_decide_eq_true hk)
theorem valD_of {κ : Type} [DecidableEq κ] {k : κ} {v : D} : ∀ {kvs : List (κ × D)}, (k, v) ∈ kvs → (∀ kv ∈ kvs, kv.1 = k → kv.2 = v) → valD kvs k = some v
  | [], h, _ => by simp at h
  | kv :: kvs, h, u => by
    unfold valD
    rw [List.find?_cons]
    by_cases hk : kv.1 = k
    · simp only [hk, decide_true]
      rw [← u kv (by simp) hk]
      rfl
    · simp only [hk, decide_false]
      refine valD_of ?_ fun x hx => u x (by simp [hx])
      rcases List.mem_cons.mp h with h | h
      · exact absurd (by rw [← h]) hk
      · exact h
theorem tup_keys {a b c : Nat} : keysOf [D.int a, D.int b, D.int c] = some (key3 a b c) := rfl
theorem ix_turns {n a b c : Nat} {f : Nat → Nat → Nat → Int} (ha : a < n) (hb : b < n) (hc : c < n) (hab : a ≠ b) (hac : a ≠ c) (hbc : b ≠ c) : pyIx (.dct (turnsK n f)) (.tup [.int a, .int b, .int c]) = .ok (.int (f a b c)) := by
  show (ofOpt (keysOf [D.int a, D.int b, D.int c])).bind (fun k => ofOpt (valD (turnsK n f) k)) = _
  rw [tup_keys]
  show ofOpt (valD (turnsK n f) (key3 a b c)) = _
  have hm : (key3 a b c, D.int (f a b c)) ∈ turnsK n f := mem_tA.mpr ⟨a, b, c, ha, hb, hc, hab, hac, hbc, rfl⟩
  rw [valD_of hm]
  · rfl
  · intro kv hm hk
    obtain ⟨a', b', c', _, _, _, _, _, _, rfl⟩ := mem_tA.mp hm
    obtain ⟨rfl, rfl, rfl⟩ := key3_inj.mp hk
    rfl
theorem set_turn {kvs : List (List Key × D)} {a b c : Nat} {z : Int} (hl : kvs.length < 1000000) (h : ∀ kv ∈ kvs, kv.1 ≠ key3 a b c) : setM (.dct kvs) (.ok (.int z)) (mkTup [.int a, .int b, .int c]) = .ok (.dct (kvs ++ [(key3 a b c, .int z)])) := by
  rw [tup_ok (by simp)]
  show (ofOpt (keysOf [D.int a, D.int b, D.int c])).bind (fun k => if kvs.length < sizeLine then M.ok (D.dct (putD kvs k (.int z))) else .stk) = _
  rw [tup_keys]
  show (if kvs.length < sizeLine then M.ok (D.dct (putD kvs (key3 a b c) (.int z))) else .stk) = _
  rw [if_pos (sz_big hl), put_new h]
theorem flat_succ {α : Type} (g : Nat → List α) (k : Nat) : (List.range (k + 1)).flatMap g = (List.range k).flatMap g ++ g k := by rw [List.range_succ, List.flatMap_append]; simp
theorem turns_ok {ps : List Pt} (hb : ∀ p ∈ ps, Bd p) (hn : ps.length ≤ 8) : m_l_turns [ptsD ps] = .ok (.dct (turnsK ps.length (ptT ps))) := by
  show (c_l_turns (ptsD ps)).toM = _
  unfold c_l_turns
  have hr : b1 pyRange1 (mlist [b1 pyLen (mlist [.ok (ptsD ps)])]) = .ok (rangeD 0 ps.length) := by
    rw [mlist_cons, mlist_nil, bind_ok, b1_ok, len_pts, mlist_cons, mlist_nil, bind_ok, b1_ok, range_i (by omega), Int.toNat_natCast]
  rw [bindC_ok, hr, bindC_ok]
  generalize hN : ps.length = n at *
  have h0 : D.dct [] = (fun a => D.dct (tA n (ptT ps) a)) 0 := rfl
  rw [h0, loopR_st (fun a => D.dct (tA n (ptT ps) a)) fun a ha => ?_]
  · rfl
  · rw [bindC_ok]
    have h1 : D.dct (tA n (ptT ps) a) = (fun b => D.dct (tA n (ptT ps) a ++ tB n (ptT ps) a b)) 0 := by
      show _ = D.dct (tA n (ptT ps) a ++ []); rw [List.append_nil]
    rw [h1, loopR_st (fun b => D.dct (tA n (ptT ps) a ++ tB n (ptT ps) a b)) fun b hb' => ?_]
    · rw [ctl_nx]
      unfold tA
      rw [flat_succ]
    · rw [bindC_ok]
      have h2 : D.dct (tA n (ptT ps) a ++ tB n (ptT ps) a b) = (fun c => D.dct (tA n (ptT ps) a ++ tB n (ptT ps) a b ++ tC (ptT ps) a b c)) 0 := by
        show _ = D.dct (tA n (ptT ps) a ++ tB n (ptT ps) a b ++ []); rw [List.append_nil]
      rw [h2, loopR_st (fun c => D.dct (tA n (ptT ps) a ++ tB n (ptT ps) a b ++ tC (ptT ps) a b c)) fun c hc => ?_]
      · rw [ctl_nx]
        unfold tB
        rw [flat_succ, List.append_assoc]
      · simp only [b2_ok, ne_ii, b1_ok, isB_bl]
        have e : tC (ptT ps) a b (c + 1) = tC (ptT ps) a b c ++ tE (ptT ps) a b c := flat_succ _ _
        rw [e]
        unfold tE
        by_cases hab : a = b
        · have : ((a : Int) = b) := by omega
          simp [this, hab]
        by_cases hac : a = c
        · have h1 : ((a : Int) = c) := by omega
          have h2 : ¬((a : Int) = b) := by omega
          simp [h1, h2, hac]
        by_cases hbc : b = c
        · have h1 : ((b : Int) = c) := by omega
          have h2 : ¬((a : Int) = b) := by omega
          have h3 : ¬((a : Int) = c) := by omega
          simp [h1, h2, h3, hbc]
        have h1 : ¬((a : Int) = b) := by omega
        have h2 : ¬((a : Int) = c) := by omega
        have h3 : ¬((b : Int) = c) := by omega
        rw [if_pos ⟨hab, hac, hbc⟩]
        simp only [h1, h2, h3, decide_false, Bool.not_false, andM_ok, if_true, bindC_ok]
        rw [ix_gp (by omega), ix_gp (by omega), ix_gp (by omega), mlist_cons, mlist_cons, mlist_cons, mlist_nil, bind_ok, bind_ok, bind_ok, b1_ok, cross_ok (bd_gp hb (by omega)) (bd_gp hb (by omega)) (bd_gp hb (by omega)), bindC_ok]
        simp only [gt_ii, lt_ii, mlist_cons, mlist_nil, bind_ok, b1_ok, int_b, b2_ok, sub_ii]
        rw [set_turn]
        · rw [bindC_ok, ctl_nx, List.append_assoc, List.append_assoc, List.append_assoc]
          unfold ptT sgn
          simp only [decide_eq_true_eq]
        · rw [List.length_append, List.length_append]
          have := len_tA (f := ptT ps) (n := n) (a := a) (by omega) (by omega)
          have := len_tB (f := ptT ps) (n := n) (a := a) (b := b) (by omega) (by omega)
          have := len_tC (f := ptT ps) (a := a) (b := b) (c := c) (by omega)
          omega
        · intro kv hm hk
          rcases List.mem_append.mp hm with hm | hm
          · rcases List.mem_append.mp hm with hm | hm
            · obtain ⟨a', b', c', h, _, _, _, _, _, rfl⟩ := mem_tA.mp hm
              have := key3_inj.mp hk
              omega
            · obtain ⟨b', c', h, _, _, _, _, rfl⟩ := mem_tB.mp hm
              have := key3_inj.mp hk
              omega
          · obtain ⟨c', h, _, _, _, rfl⟩ := mem_tC.mp hm
            have := key3_inj.mp hk
            omega
end Mir
namespace Mir
open PySem PySem.Spec L2

/-! ### signs of texts -/
theorem strD_inj {l m : List Nat} : strD l = strD m ↔ l = m := by
  unfold strD
  simp
theorem eq_strD {l m : List Nat} : pyEq (strD l) (strD m) = .ok (.bl (decide (l = m))) := by
  show M.ok (D.bl (decide ((⟨l.toArray⟩ : Str) = ⟨m.toArray⟩))) = _
  congr 2
  simp
theorem ne_strD {l m : List Nat} : pyNe (strD l) (strD m) = .ok (.bl (!decide (l = m))) := by
  show M.ok (D.bl (!decide ((⟨l.toArray⟩ : Str) = ⟨m.toArray⟩))) = _
  congr 3
  simp
theorem strD_Q : D.str "?" = strD [63] := by unfold strD; congr 1
theorem len_strD {l : List Nat} (h : l.length < 1000000) : pyLen [strD l] = .ok (.int l.length) := by
  show (if Str.length ⟨l.toArray⟩ ≤ sizeLine then M.ok (D.int (Str.length ⟨l.toArray⟩)) else .stk) = _
  rw [str_len, if_pos (Nat.le_of_lt (sz_big h))]
theorem ix_strD {l : List Nat} {k x : Nat} (h : l.length < 1000000) (hx : l[k]? = some x) : pyIx (strD l) (.int k) = .ok (strD [x]) := by
  show (if Str.length ⟨l.toArray⟩ ≤ sizeLine then (ofOpt (atI (Str.mk l.toArray).cps.toList k)).bind (fun c => M.ok (D.str ⟨#[c]⟩)) else .stk) = _
  rw [str_len, if_pos (Nat.le_of_lt (sz_big h))]
  rw [show (Str.mk l.toArray).cps.toList = l from List.toList_toArray, atI_nat hx]
  rfl
theorem strsOf_map (l : List (List Nat)) : strsOf (l.map strD) = some (l.map fun x => (⟨x.toArray⟩ : Str)) := by
  induction l with
  | nil => rfl
  | cons a l ih => show (strsOf (l.map strD)).map _ = _; rw [ih]; rfl
theorem join_flat : ∀ l : List (List Nat), Str.join ⟨([] : List Nat).toArray⟩ (l.map fun x => (⟨x.toArray⟩ : Str)) = ⟨l.flatten.toArray⟩
  | [] => rfl
  | [a] => by show (⟨a.toArray⟩ : Str) = _; simp
  | a :: b :: l => by
    show (⟨a.toArray⟩ ++ ⟨([] : List Nat).toArray⟩ ++ Str.join ⟨([] : List Nat).toArray⟩ ((b :: l).map fun x => (⟨x.toArray⟩ : Str)) : Str) = _
    rw [join_flat (b :: l)]
    show (⟨a.toArray ++ #[] ++ (b :: l).flatten.toArray⟩ : Str) = _
    simp
theorem join_strD {l : List (List Nat)} (h : (l.map List.length).sum < 1000000) : pyJoin (.str "") (.lst (l.map strD)) = .ok (strD l.flatten) := by
  rw [strD_nil]
  show (ofOpt (strsOf (l.map strD))).bind (fun ys => if (ys.map (·.length)).sum + ys.length * Str.length ⟨([] : List Nat).toArray⟩ ≤ 16777216 then M.ok (D.str (Txt.join ⟨([] : List Nat).toArray⟩ ys)) else .stk) = _
  rw [strsOf_map]
  show (if ((l.map fun x => (⟨x.toArray⟩ : Str)).map (·.length)).sum + (l.map fun x => (⟨x.toArray⟩ : Str)).length * Str.length ⟨([] : List Nat).toArray⟩ ≤ 16777216 then M.ok (D.str (Txt.join ⟨([] : List Nat).toArray⟩ (l.map fun x => (⟨x.toArray⟩ : Str)))) else .stk) = _
  have e1 : ((l.map fun x => (⟨x.toArray⟩ : Str)).map (·.length)).sum = (l.map List.length).sum := by
    rw [List.map_map]
    exact congrArg List.sum (List.map_congr_left fun x _ => str_len)
  rw [e1, str_len, if_pos (by simp only [List.length_nil, Nat.mul_zero]; omega)]
  unfold Txt.join
  rw [StrLaws.glued_eq_join, join_flat]
  rfl
/-- single signs joined -/
theorem join_signs {l : List Nat} (h : l.length < 1000000) : pyJoin (.str "") (.lst (l.map fun x => strD [x])) = .ok (strD l) := by
  have e : (l.map fun x => strD [x]) = (l.map fun x => [x]).map strD := by rw [List.map_map]; rfl
  have e2 : ∀ l : List Nat, (l.map fun x => [x]).flatten = l := by
    intro l
    induction l with
    | nil => rfl
    | cons a l ih => rw [List.map_cons, List.flatten_cons, ih]; rfl
  have e3 : ∀ l : List Nat, ((l.map fun x => [x]).map List.length).sum = l.length := by
    intro l
    induction l with
    | nil => rfl
    | cons a l ih => rw [List.map_cons, List.map_cons, List.sum_cons, ih, List.length_cons, Nat.add_comm]; rfl
  rw [e, join_strD (by rw [e3]; exact h), e2]

/-! ### the letters of the turns -/
theorem letters_ok {n : Nat} {f : Nat → Nat → Nat → Int} (hn : n ≤ 8) (hf : ∀ a b c, a < b → b < c → c < n → f a b c ≠ 0) : m_l_letters [.dct (turnsK n f), .int n] = .ok (strD (lw n f)) := by
  show (c_l_letters (.dct (turnsK n f)) (.int n)).toM = _
  unfold c_l_letters
  rw [bindC_ok, mlist_cons, mlist_nil, bind_ok, b1_ok, range_i (by omega), bindC_ok, Int.toNat_natCast]
  let A (b c : Nat) (a : Nat) : List Nat := (List.range a).map fun a => ltr (f a b c)
  let B (c : Nat) (b : Nat) : List Nat := (List.range b).flatMap fun b => A b c b
  let C (c : Nat) : List Nat := (List.range c).flatMap fun c => B c c
  have hA : ∀ b c a, (A b c a).length = a := fun b c a => by show ((List.range a).map _).length = a; simp
  have hB : ∀ b c, b ≤ 8 → (B c b).length ≤ 64 := fun b c hb => by
    have := len_flat (g := fun b => A b c b) (k := 8) (l := List.range b) fun x hx => by rw [hA]; have := List.mem_range.mp hx; omega
    rw [List.length_range] at this
    show ((List.range b).flatMap fun b => A b c b).length ≤ 64
    omega
  have hC : ∀ c, c ≤ 8 → (C c).length ≤ 512 := fun c hc => by
    have := len_flat (g := fun c => B c c) (k := 64) (l := List.range c) fun x hx => hB _ _ (by have := List.mem_range.mp hx; omega)
    rw [List.length_range] at this
    show ((List.range c).flatMap fun c => B c c).length ≤ 512
    omega
  have hw : C n = lw n f := by
    show (List.range n).flatMap _ = _
    unfold lw thr
    rw [List.map_flatMap]
    congr 1
    funext c
    rw [List.map_flatMap]
    show (List.range c).flatMap _ = _
    congr 1
    funext b
    rw [List.map_map]
    rfl
  rw [strD_nil, show strD [] = (fun c => strD (C c)) 0 from rfl, loopR_st (fun c => strD (C c)) fun c hc => ?_]
  · rw [ctl_nx, bindC_ok, toM_ret, hw]
  · rw [mlist_cons, mlist_nil, bind_ok, b1_ok, range_i (by omega), bindC_ok, Int.toNat_natCast]
    have h1 : strD (C c) = (fun b => strD (C c ++ B c b)) 0 := by show _ = strD (C c ++ []); rw [List.append_nil]
    rw [h1, loopR_st (fun b => strD (C c ++ B c b)) fun b hb => ?_]
    · rw [ctl_nx]
      show Ctl.nx (strD (C c ++ B c c)) = Ctl.nx (strD ((List.range (c + 1)).flatMap _))
      rw [flat_succ]
    · rw [mlist_cons, mlist_nil, bind_ok, b1_ok, range_i (by omega), bindC_ok, Int.toNat_natCast]
      have h2 : strD (C c ++ B c b) = (fun a => strD (C c ++ B c b ++ A b c a)) 0 := by show _ = strD (C c ++ B c b ++ []); rw [List.append_nil]
      rw [h2, loopR_st (fun a => strD (C c ++ B c b ++ A b c a)) fun a ha => ?_]
      · rw [ctl_nx]
        show Ctl.nx (strD (C c ++ B c b ++ A b c b)) = Ctl.nx (strD (C c ++ (List.range (b + 1)).flatMap _))
        rw [flat_succ, List.append_assoc]
      · rw [tup3, b2_ok, ix_turns (by omega) (by omega) (by omega) (by omega) (by omega) (by omega), b2_ok, eq_ii]
        simp only [mlist_cons, mlist_nil, bind_ok, b1_ok, int_b]
        have e : b2 pyIx (mkLst [.str "R", .str "L"]) (.ok (.int (if decide (f a b c = 1) = true then 1 else 0))) = .ok (strD [ltr (f a b c)]) := by
          rw [strD_L, strD_R]
          unfold ltr
          have := hf a b c ha hb hc
          by_cases h : f a b c = 1
          · simp only [h, decide_true, if_true]; rfl
          · simp only [h, this, decide_false, if_false, Bool.false_eq_true]; rfl
        rw [e, b2_ok, add_strD, bindC_ok]
        · show Ctl.nx (strD (C c ++ B c b ++ A b c a ++ [ltr (f a b c)])) = Ctl.nx (strD (C c ++ B c b ++ (List.range (a + 1)).map fun a => ltr (f a b c)))
          rw [List.range_succ, List.map_append, List.append_assoc]
          rfl
        · rw [List.length_append, List.length_append, hA]
          have := hB b c (by omega)
          have := hC c (by omega)
          simp only [List.length_singleton]
          omega

/-! ### turns out of letters -/
theorem position_ok {a b c : Nat} (hb : 1 ≤ b) (hc : 2 ≤ c) (h : b < 1000000 ∧ c < 1000000) : m_position [.int a, .int b, .int c] = .ok (.int (pos a b c)) := by
  show (c_position (.int a) (.int b) (.int c)).toM = _
  unfold c_position
  simp only [b2_ok, sub_ii]
  rw [mul_ii (.inl (by omega)), b2_ok, mul_ii (.inr (by omega)), b2_ok, div_ii (by decide), mul_ii (.inl (by omega)), b2_ok, div_ii (by decide), b2_ok, add_ii, b2_ok, add_ii, bindC_ok, toM_ret]
  unfold pos
  congr 2
  have e1 : ((c : Int) - 1) = ((c - 1 : Nat) : Int) := by omega
  have e2 : ((c : Int) - 2) = ((c - 2 : Nat) : Int) := by omega
  have e3 : ((b : Int) - 1) = ((b - 1 : Nat) : Int) := by omega
  rw [e1, e2, e3]
  simp only [Int.natCast_add, Int.natCast_ediv, Int.natCast_mul]
  rfl
/-- the letter of a < b < c stands where it belongs -/
def RdAt (w : List Nat) (f : Nat → Nat → Nat → Int) (a b c : Nat) : Prop := w[pos a b c]? = some (ltr (f a b c)) ∧ (f a b c = 1 ∨ f a b c = 0 ∨ f a b c = -1)
theorem lw_rd {n a b c : Nat} {f : Nat → Nat → Nat → Int} (hn : n ≤ 8) (h : f a b c = 1 ∨ f a b c = 0 ∨ f a b c = -1) (hab : a < b) (hbc : b < c) (hc : c < n) : RdAt (lw n f) f a b c := ⟨lw_pos hn hab hbc hc, h⟩
theorem turn_end {w : List Nat} {f : Nat → Nat → Nat → Int} {x y z : Nat} {s : Int} (hw : w.length < 1000000) (hxy : x < y) (hyz : y < z) (hz : z < 1000000) (r : RdAt w f x y z) :
    ((M.bindC (b2 pyIx (.ok (strD w)) (m_position [.int x, .int y, .int z])) () fun l => M.bindC (b1 isB (pyEq l (.str "?"))) () fun c => if c = true then Ctl.ret (.int 0) else M.bindC (ifM (b1 isB (pyEq l (.str "L"))) (.ok (.int s)) (.ok (.int (-s)))) () Ctl.ret) : Ctl Unit Unit).toM = .ok (.int (s * f x y z)) := by
  rw [position_ok (by omega) (by omega) (by omega), b2_ok, ix_strD hw r.1, bindC_ok, strD_Q, strD_L, eq_strD, b1_ok, isB_bl, bindC_ok, eq_strD, b1_ok, isB_bl, ifM_ok]
  rcases r.2 with h | h | h <;> rw [h] <;> unfold ltr <;> simp
theorem turn_ok {w : List Nat} {f : Nat → Nat → Nat → Int} {a b c : Nat} (hw : w.length < 1000000) (hm : a < 1000000 ∧ b < 1000000 ∧ c < 1000000) (hab : a ≠ b) (hac : a ≠ c) (hbc : b ≠ c)
    (r : ∀ x y z, x < y → y < z → (x = a ∨ x = b ∨ x = c) → (y = a ∨ y = b ∨ y = c) → (z = a ∨ z = b ∨ z = c) → RdAt w f x y z) : m_turn_of [strD w, .int a, .int b, .int c] = .ok (.int (tn f a b c)) := by
  show (c_turn_of (strD w) (.int a) (.int b) (.int c)).toM = _
  unfold c_turn_of
  obtain ⟨h1, h2, h3⟩ := hm
  unfold tn
  rcases Nat.lt_or_gt_of_ne hab with hab | hab <;> rcases Nat.lt_or_gt_of_ne hbc with hbc | hbc <;> rcases Nat.lt_or_gt_of_ne hac with hac | hac <;> try omega
  · simp (disch := omega) only [bindC_ok, b2_ok, gt_t, gt_f, b1_ok, isB_bl, if_true, if_false, Bool.false_eq_true, unL3_at, mlist_cons, mlist_nil, bind_ok, ctl_nx, neg_i, if_pos, if_neg]
    refine (turn_end hw hab hbc h3 (r _ _ _ hab hbc (.inl rfl) (.inr (.inl rfl)) (.inr (.inr rfl)))).trans ?_
    congr 2
    omega
  · simp (disch := omega) only [bindC_ok, b2_ok, gt_t, gt_f, b1_ok, isB_bl, if_true, if_false, Bool.false_eq_true, unL3_at, mlist_cons, mlist_nil, bind_ok, ctl_nx, neg_i, if_pos, if_neg]
    refine (turn_end hw hac hbc h2 (r _ _ _ hac hbc (.inl rfl) (.inr (.inr rfl)) (.inr (.inl rfl)))).trans ?_
    congr 2
    omega
  · simp (disch := omega) only [bindC_ok, b2_ok, gt_t, gt_f, b1_ok, isB_bl, if_true, if_false, Bool.false_eq_true, unL3_at, mlist_cons, mlist_nil, bind_ok, ctl_nx, neg_i, if_pos, if_neg]
    refine (turn_end hw hac hab h2 (r _ _ _ hac hab (.inr (.inr rfl)) (.inl rfl) (.inr (.inl rfl)))).trans ?_
    congr 2
    omega
  · simp (disch := omega) only [bindC_ok, b2_ok, gt_t, gt_f, b1_ok, isB_bl, if_true, if_false, Bool.false_eq_true, unL3_at, mlist_cons, mlist_nil, bind_ok, ctl_nx, neg_i, if_pos, if_neg]
    refine (turn_end hw hab hac h3 (r _ _ _ hab hac (.inr (.inl rfl)) (.inl rfl) (.inr (.inr rfl)))).trans ?_
    congr 2
    omega
  · simp (disch := omega) only [bindC_ok, b2_ok, gt_t, gt_f, b1_ok, isB_bl, if_true, if_false, Bool.false_eq_true, unL3_at, mlist_cons, mlist_nil, bind_ok, ctl_nx, neg_i, if_pos, if_neg]
    refine (turn_end hw hbc hac h1 (r _ _ _ hbc hac (.inr (.inl rfl)) (.inr (.inr rfl)) (.inl rfl))).trans ?_
    congr 2
    omega
  · simp (disch := omega) only [bindC_ok, b2_ok, gt_t, gt_f, b1_ok, isB_bl, if_true, if_false, Bool.false_eq_true, unL3_at, mlist_cons, mlist_nil, bind_ok, ctl_nx, neg_i, if_pos, if_neg]
    refine (turn_end hw hbc hab h1 (r _ _ _ hbc hab (.inr (.inr rfl)) (.inr (.inl rfl)) (.inl rfl))).trans ?_
    congr 2
    omega
theorem tn_cs {f : Nat → Nat → Nat → Int} {a b c : Nat} (hab : a ≠ b) (hac : a ≠ c) (hbc : b ≠ c)
    (r : ∀ x y z, x < y → y < z → (x = a ∨ x = b ∨ x = c) → (y = a ∨ y = b ∨ y = c) → (z = a ∨ z = b ∨ z = c) → (f x y z = 1 ∨ f x y z = 0 ∨ f x y z = -1)) : tn f a b c = 1 ∨ tn f a b c = 0 ∨ tn f a b c = -1 := by
  unfold tn
  rcases Nat.lt_or_gt_of_ne hab with h1 | h1 <;> rcases Nat.lt_or_gt_of_ne hbc with h2 | h2 <;> rcases Nat.lt_or_gt_of_ne hac with h3 | h3 <;> try omega
  · have := r a b c (by omega) (by omega) (by omega) (by omega) (by omega); split <;> (try split) <;> omega
  · have := r a c b (by omega) (by omega) (by omega) (by omega) (by omega); split <;> (try split) <;> omega
  · have := r c a b (by omega) (by omega) (by omega) (by omega) (by omega); split <;> (try split) <;> omega
  · have := r b a c (by omega) (by omega) (by omega) (by omega) (by omega); split <;> (try split) <;> omega
  · have := r b c a (by omega) (by omega) (by omega) (by omega) (by omega); split <;> (try split) <;> omega
  · have := r c b a (by omega) (by omega) (by omega) (by omega) (by omega); split <;> (try split) <;> omega
/-- all letters of posts below n can be read -/
def Rd8 (w : List Nat) (f : Nat → Nat → Nat → Int) (ok : Nat → Prop) : Prop := ∀ x y z, x < y → y < z → ok x → ok y → ok z → RdAt w f x y z
theorem Rd8.turn {w : List Nat} {f : Nat → Nat → Nat → Int} {ok : Nat → Prop} (R : Rd8 w f ok) (hw : w.length < 1000000) (hm : ∀ x, ok x → x < 1000000) {a b c : Nat} (ha : ok a) (hb : ok b) (hc : ok c) (hab : a ≠ b) (hac : a ≠ c) (hbc : b ≠ c) :
    m_turn_of [strD w, .int a, .int b, .int c] = .ok (.int (tn f a b c)) ∧ (tn f a b c = 1 ∨ tn f a b c = 0 ∨ tn f a b c = -1) := by
  have r : ∀ x y z, x < y → y < z → (x = a ∨ x = b ∨ x = c) → (y = a ∨ y = b ∨ y = c) → (z = a ∨ z = b ∨ z = c) → RdAt w f x y z := fun x y z h1 h2 hx hy hz =>
    R x y z h1 h2 (by rcases hx with rfl | rfl | rfl <;> assumption) (by rcases hy with rfl | rfl | rfl <;> assumption) (by rcases hz with rfl | rfl | rfl <;> assumption)
  exact ⟨turn_ok hw ⟨hm _ ha, hm _ hb, hm _ hc⟩ hab hac hbc r, tn_cs hab hac hbc fun x y z h1 h2 hx hy hz => (r x y z h1 h2 hx hy hz).2⟩

/-! ### the rules -/
def b5 (t : Nat → Nat → Nat → Int) (x a b c d : Nat) : Bool := decide (t x a b * t x c d = -t x a c * t x b d) && (decide (-t x a c * t x b d = t x a d * t x b c) && decide (t x a d * t x b c ≠ 0))
theorem breaks_ok {w : List Nat} {f : Nat → Nat → Nat → Int} {ok : Nat → Prop} (R : Rd8 w f ok) (hw : w.length < 1000000) (hm : ∀ x, ok x → x < 1000000) {x a b c d : Nat} (hx : ok x) (ha : ok a) (hb : ok b) (hc : ok c) (hd : ok d)
    (h1 : x ≠ a) (h2 : x ≠ b) (h3 : x ≠ c) (h4 : x ≠ d) (h5 : a ≠ b) (h6 : a ≠ c) (h7 : a ≠ d) (h8 : b ≠ c) (h9 : b ≠ d) (h10 : c ≠ d) : m_breaks_five [strD w, .int x, .int a, .int b, .int c, .int d] = .ok (.bl (b5 (tn f) x a b c d)) := by
  show (c_breaks_five (strD w) (.int x) (.int a) (.int b) (.int c) (.int d)).toM = _
  unfold c_breaks_five
  obtain ⟨e1, q1⟩ := R.turn hw hm hx ha hb h1 h2 h5
  obtain ⟨e2, q2⟩ := R.turn hw hm hx hc hd h3 h4 h10
  obtain ⟨e3, q3⟩ := R.turn hw hm hx ha hc h1 h3 h6
  obtain ⟨e4, q4⟩ := R.turn hw hm hx hb hd h2 h4 h9
  obtain ⟨e5, q5⟩ := R.turn hw hm hx ha hd h1 h4 h7
  obtain ⟨e6, q6⟩ := R.turn hw hm hx hb hc h2 h3 h8
  simp only [mlist_cons, mlist_nil, bind_ok, b1_ok, e1, e2, e3, e4, e5, e6, b2_ok, neg_i]
  rw [mul_ii (.inl (by omega)), mul_ii (.inl (by omega)), mul_ii (.inl (by omega)), bindC_ok, bindC_ok, bindC_ok]
  unfold chM3 b5
  simp only [bind_ok, eq_ii, ne_ii, isB_bl]
  generalize tn f x a b * tn f x c d = u
  generalize -tn f x a c * tn f x b d = v
  generalize tn f x a d * tn f x b c = z
  by_cases k1 : u = v
  · subst k1
    by_cases k2 : u = z
    · subst k2
      by_cases k3 : u = 0 <;> simp [k3]
    · simp [k2]
  · simp [k1]
end Mir
namespace Mir
open PySem PySem.Spec L2

/-! ### the named posts -/
def chk3 (n a b c : Int) : Bool := (decide (0 ≤ a) && decide (a < n)) && ((decide (0 ≤ b) && decide (b < n)) && !decide (a = b)) && ((decide (0 ≤ c) && decide (c < n)) && !(decide (a = c) || decide (b = c)))
theorem chM_ii {a b c : Int} : chM pyLe pyLt (.ok (.int a)) (.ok (.int b)) (.ok (.int c)) = .ok (.bl (decide (a ≤ b) && decide (b < c))) := by
  unfold chM
  simp only [bind_ok, le_ii, isB_bl, lt_ii]
  by_cases h : a ≤ b <;> simp [h]
theorem mem_0 {x : Int} : memD false (.int x) (.tup []) = .ok (.bl false) := rfl
theorem mem_1 {x a : Int} : memD false (.int x) (.tup [.int a]) = .ok (.bl (decide (a = x))) := by
  show M.ok (D.bl ((a == x) || false)) = _
  rw [Bool.or_false]
  rfl
theorem mem_2 {x a b : Int} : memD false (.int x) (.tup [.int a, .int b]) = .ok (.bl (decide (a = x) || decide (b = x))) := by
  show M.ok (D.bl ((a == x) || ((b == x) || false))) = _
  rw [Bool.or_false]
  rfl
theorem posts_step {n x : Int} {m : M D} {b : Bool} (hm : m = .ok (.bl b)) : ((M.bindC (orM (notM (b1 isB (chM pyLe pyLt (.ok (.int 0)) (.ok (.int x)) (.ok (.int n))))) (b1 isB m)) () fun c => if c = true then (.exn ⟨1, []⟩ ()) else .nx ()) : Ctl Unit Unit) = if ((decide (0 ≤ x) && decide (x < n)) && !b) = true then .nx () else .exn ⟨1, []⟩ () := by
  rw [hm, chM_ii, b1_ok, isB_bl, notM_ok, orM_ok, b1_ok, isB_bl]
  cases decide (0 ≤ x) <;> cases decide (x < n) <;> cases b <;> rfl
theorem check_posts_ok (n a b c : Int) : m_check_posts [.int n, .tup [.int a, .int b, .int c]] = if chk3 n a b c = true then .ok .non else .exn ⟨1, []⟩ := by
  show (c_check_posts (.int n) (.tup [.int a, .int b, .int c])).toM = _
  unfold c_check_posts
  rw [show b1 pyEnum (mlist [.ok (D.tup [.int a, .int b, .int c])]) = .ok [.tup [.int 0, .int a], .tup [.int 1, .int b], .tup [.int 2, .int c]] from rfl, bindC_ok]
  unfold chk3
  let f : D → Unit → Ctl Unit Unit := fun v2_t (v1_j : Unit) => un2 .stk v2_t fun v3_k v4_post => M.bindC (orM (notM (b1 isB (chM pyLe pyLt (.ok (.int 0)) (.ok v4_post) (.ok (.int n))))) (b1 isB (b2 (memD false) (.ok v4_post) (slM (.ok (.tup [.int a, .int b, .int c])) (.ok none) (b1 someI (.ok v3_k)))))) () fun c => if c = true then (.exn ⟨1, []⟩ ()) else .nx ()
  show ((f (.tup [.int 0, .int a]) ()).bind (fun s => (f (.tup [.int 1, .int b]) s).bind (fun s => (f (.tup [.int 2, .int c]) s).bind fun s => Ctl.nx s)) |>.bind fun _ => Ctl.nx ()).toM = _
  have e0 : f (.tup [.int 0, .int a]) () = if ((decide (0 ≤ a) && decide (a < n)) && !false) = true then .nx () else .exn ⟨1, []⟩ () := posts_step mem_0
  have e1 : f (.tup [.int 1, .int b]) () = if ((decide (0 ≤ b) && decide (b < n)) && !decide (a = b)) = true then .nx () else .exn ⟨1, []⟩ () := posts_step mem_1
  have e2 : f (.tup [.int 2, .int c]) () = if ((decide (0 ≤ c) && decide (c < n)) && !(decide (a = c) || decide (b = c))) = true then .nx () else .exn ⟨1, []⟩ () := posts_step mem_2
  rw [e0]
  cases (decide (0 ≤ a) && decide (a < n)) with
  | false => rfl
  | true =>
    rw [if_pos (by rfl), ctl_nx, e1]
    cases ((decide (0 ≤ b) && decide (b < n)) && !decide (a = b)) with
    | false => rfl
    | true =>
      rw [if_pos rfl, ctl_nx, e2]
      cases ((decide (0 ≤ c) && decide (c < n)) && !(decide (a = c) || decide (b = c))) with
      | false => rfl
      | true => rfl
theorem chk3_iff {n a b c : Int} : chk3 n a b c = true ↔ (0 ≤ a ∧ a < n) ∧ (0 ≤ b ∧ b < n) ∧ (0 ≤ c ∧ c < n) ∧ a ≠ b ∧ a ≠ c ∧ b ≠ c := by
  unfold chk3
  simp only [Bool.and_eq_true, decide_eq_true_eq, Bool.not_eq_true', decide_eq_false_iff_not, Bool.or_eq_false_iff]
  constructor
  · rintro ⟨⟨h1, h2, h3⟩, h4, h5, h6⟩; exact ⟨h1, h2, h4, h3, h5, h6⟩
  · rintro ⟨h1, h2, h3, h4, h5, h6⟩; exact ⟨⟨h1, h2, h4⟩, h3, h5, h6⟩

/-! ### all threes -/
def natsD (l : List Nat) : List D := l.map fun k : Nat => D.int k
def tupN (l : List Nat) : D := .tup (natsD l)
def t3D (t : T3) : D := tupN [t.1, t.2.1, t.2.2]
theorem threes_ok {n : Nat} (hn : n ≤ 8) : m_threes [.int n] = .ok (.lst ((thr n).map t3D)) := by
  show (c_threes (.int n)).toM = _
  unfold c_threes
  have hr : ∀ k : Nat, k ≤ 8 → b1 pyRange1 (mlist [.ok (.int k)]) = .ok (rangeD 0 k) := fun k hk => by rw [mlist_cons, mlist_nil, bind_ok, b1_ok, range_i (by omega), Int.toNat_natCast]
  rw [lcM_ok (hr n hn) (compR (fun c => (List.range c).flatMap fun b => (List.range b).flatMap fun a => [t3D (a, b, c)]) fun c hc => ?_), bindC_ok, toM_ret]
  · unfold thr
    simp only [List.map_flatMap, List.map_map]
    congr 2
    congr 1
    funext c
    congr 1
    funext b
    rw [List.map_eq_flatMap]
    rfl
  · have := len_flat (g := fun c => (List.range c).flatMap fun b => (List.range b).flatMap fun a => [t3D (a, b, c)]) (k := 64) (l := List.range n) fun c hc => by
      have hc := List.mem_range.mp hc
      have := len_flat (g := fun b => (List.range b).flatMap fun a => [t3D (a, b, c)]) (k := 8) (l := List.range c) fun b hb => by
        have hb := List.mem_range.mp hb
        have := len_flat (g := fun a => [t3D (a, b, c)]) (k := 1) (l := List.range b) fun a ha => by simp
        rw [List.length_range] at this
        omega
      rw [List.length_range] at this
      omega
    rw [List.length_range] at this
    omega
  · rw [inM_t (hr c (by omega)), compR (fun b => (List.range b).flatMap fun a => [t3D (a, b, c)]) fun b hb => ?_]
    rw [inM_t (hr b (by omega)), compR (fun a => [t3D (a, b, c)]) fun a ha => ?_]
    rw [tup3]
    exact elM_t rfl

/-! ### the rules -/
def b4 (f : Nat → Nat → Nat → Int) (w a b c : Nat) : Bool := decide ([ltr (f w a b), ltr (f w a c), ltr (f w b c), ltr (f a b c)] = [76, 82, 76, 82]) || decide ([ltr (f w a b), ltr (f w a c), ltr (f w b c), ltr (f a b c)] = [82, 76, 82, 76])
def g4 (f : Nat → Nat → Nat → Int) (a b c w : Nat) : Option D := if b4 f w a b c = true then some (tupN [w, a, b, c]) else none
def g5 (f : Nat → Nat → Nat → Int) (v w a b c x : Nat) : Option D := match [v, w, a, b, c].filter (fun y => decide (y ≠ x)) with
  | [p, q, r, s] => if b5 (tn f) x p q r s = true then some (tupN [x, p, q, r, s]) else none
  | _ => none
/-- what breaks a rule, of posts a < b < c and lesser ones -/
def lbr (f : Nat → Nat → Nat → Int) (a b c : Nat) : Option D := ((List.range a).findSome? (g4 f a b c)).or ((List.range a).findSome? fun w => (List.range w).findSome? fun v => [v, w, a, b, c].findSome? (g5 f v w a b c))
def brch (f : Nat → Nat → Nat → Int) (n : Nat) : Option D := (thr n).findSome? fun t => lbr f t.1 t.2.1 t.2.2
def optD : Option D → D
  | some d => d
  | none => .non
theorem filt5 {v w a b c x : Nat} (h1 : v < w) (h2 : w < a) (h3 : a < b) (h4 : b < c) (hx : x ∈ [v, w, a, b, c]) : ∃ p q r s, [v, w, a, b, c].filter (fun y => decide (y ≠ x)) = [p, q, r, s] ∧ p < q ∧ q < r ∧ r < s ∧ x ≠ p ∧ x ≠ q ∧ x ≠ r ∧ x ≠ s ∧ v ≤ p ∧ s ≤ c := by
  simp only [List.mem_cons, List.not_mem_nil, or_false] at hx
  rcases hx with rfl | rfl | rfl | rfl | rfl
  · exact ⟨w, a, b, c, by simp [List.filter_cons, (show w ≠ x by omega), (show a ≠ x by omega), (show b ≠ x by omega), (show c ≠ x by omega)], by omega, by omega, by omega, by omega, by omega, by omega, by omega, by omega, by omega⟩
  · exact ⟨v, a, b, c, by simp [List.filter_cons, (show v ≠ x by omega), (show a ≠ x by omega), (show b ≠ x by omega), (show c ≠ x by omega)], by omega, by omega, by omega, by omega, by omega, by omega, by omega, by omega, by omega⟩
  · exact ⟨v, w, b, c, by simp [List.filter_cons, (show v ≠ x by omega), (show w ≠ x by omega), (show b ≠ x by omega), (show c ≠ x by omega)], by omega, by omega, by omega, by omega, by omega, by omega, by omega, by omega, by omega⟩
  · exact ⟨v, w, a, c, by simp [List.filter_cons, (show v ≠ x by omega), (show w ≠ x by omega), (show a ≠ x by omega), (show c ≠ x by omega)], by omega, by omega, by omega, by omega, by omega, by omega, by omega, by omega, by omega⟩
  · exact ⟨v, w, a, b, by simp [List.filter_cons, (show v ≠ x by omega), (show w ≠ x by omega), (show a ≠ x by omega), (show b ≠ x by omega)], by omega, by omega, by omega, by omega, by omega, by omega, by omega, by omega, by omega⟩
theorem mem_str2 {x p q : List Nat} : memD false (strD x) (.tup [strD p, strD q]) = .ok (.bl (decide (x = p) || decide (x = q))) := by
  show M.ok (D.bl (((⟨p.toArray⟩ : Str) == ⟨x.toArray⟩) || (((⟨q.toArray⟩ : Str) == ⟨x.toArray⟩) || false))) = _
  have e : ∀ p : List Nat, ((⟨p.toArray⟩ : Str) == ⟨x.toArray⟩) = decide (x = p) := fun p => by
    rw [Bool.eq_iff_iff, beq_iff_eq, decide_eq_true_eq, Str.mk.injEq]
    constructor
    · intro h; have := congrArg Array.toList h; simpa using this.symm
    · rintro rfl; rfl
  rw [e, e, Bool.or_false]
theorem strD_LRLR : D.str "LRLR" = strD [76, 82, 76, 82] := by unfold strD; congr 1
theorem strD_RLRL : D.str "RLRL" = strD [82, 76, 82, 76] := by unfold strD; congr 1
theorem ctl_out {X S T : Type} {s : S} {o : Option D} {k : S → Ctl X T} : (outF s o).bind k = match o with
    | some r => .ret r
    | none => k s := by cases o <;> rfl
theorem truth_b {b : Bool} : pyTruth (.bl b) = .ok b := rfl
theorem last_ok {w : List Nat} {f : Nat → Nat → Nat → Int} {a b c : Nat} (R : Rd8 w f (· ≤ c)) (hw : w.length < 1000000) (hab : a < b) (hbc : b < c) (hc : c < 1000) : m_last_breach [strD w, .int a, .int b, .int c] = .ok (optD (lbr f a b c)) := by
  show (c_last_breach (strD w) (.int a) (.int b) (.int c)).toM = _
  unfold c_last_breach
  have hm : ∀ x, x ≤ c → x < 1000000 := fun x h => by omega
  have hr : ∀ k : Nat, k ≤ c → b1 pyRange1 (mlist [.ok (.int k)]) = .ok (rangeD 0 k) := fun k hk => by rw [mlist_cons, mlist_nil, bind_ok, b1_ok, range_i (by omega), Int.toNat_natCast]
  have hp : ∀ x y z : Nat, x < y → y < z → z ≤ c → b2 pyIx (.ok (strD w)) (b1 m_position (mlist [.ok (.int x), .ok (.int y), .ok (.int z)])) = .ok (strD [ltr (f x y z)]) := fun x y z h1 h2 h3 => by
    rw [mlist_cons, mlist_cons, mlist_cons, mlist_nil, bind_ok, bind_ok, bind_ok, b1_ok, position_ok (by omega) (by omega) (by omega), b2_ok, ix_strD hw (R x y z h1 h2 (by omega) (by omega) (by omega)).1]
  rw [hr a (by omega), bindC_ok, bindC_ok, loopR_find (g4 f a b c) fun v hv => ?_, ctl_out]
  · unfold lbr
    cases (List.range a).findSome? (g4 f a b c) with
    | some r => rfl
    | none =>
      rw [Option.none_or]
      dsimp only
      rw [loopR_find (fun w => (List.range w).findSome? fun v => [v, w, a, b, c].findSome? (g5 f v w a b c)) fun u hu => ?_, ctl_out]
      · cases (List.range a).findSome? fun w => (List.range w).findSome? fun v => [v, w, a, b, c].findSome? (g5 f v w a b c) <;> rfl
      · rw [hr u (by omega), bindC_ok, loopR_find (fun v => [v, u, a, b, c].findSome? (g5 f v u a b c)) fun v hv => ?_, ctl_out]
        · cases (List.range u).findSome? fun v => [v, u, a, b, c].findSome? (g5 f v u a b c) <;> rfl
        · rw [tup5, b1_ok, show pyItems (.tup [D.int v, .int u, .int a, .int b, .int c]) = .ok ([v, u, a, b, c].map fun k : Nat => D.int k) from rfl, bindC_ok, loopM_find (fun k : Nat => D.int k) (g5 f v u a b c) fun x hx => ?_, ctl_out]
          · cases [v, u, a, b, c].findSome? (g5 f v u a b c) <;> rfl
          · rw [lcM_ok (ds := [v, u, a, b, c].map fun k : Nat => D.int k) (r := ([v, u, a, b, c].filter fun y => decide (y ≠ x)).map fun k : Nat => D.int k) rfl ?_ ?_, bindC_ok]
            · obtain ⟨p, q, r, s, e, k⟩ := filt5 hv hu hab hbc hx
              have hx' : x ≤ c := by
                simp only [List.mem_cons, List.not_mem_nil, or_false] at hx
                omega
              unfold g5
              rw [e]
              show un4 (Ctl.stk : Ctl Unit Unit) (.lst [D.int p, .int q, .int r, .int s]) _ = _
              rw [un4_l]
              simp only [mlist_cons, mlist_nil, bind_ok, b1_ok]
              rw [breaks_ok R hw hm (x := x) (a := p) (b := q) (c := r) (d := s) hx' (by omega) (by omega) (by omega) (by omega) (by omega) (by omega) (by omega) (by omega) (by omega) (by omega) (by omega) (by omega) (by omega) (by omega), b1_ok, truth_b, bindC_ok]
              cases b5 (tn f) x p q r s with
              | true => rw [tup_ok (by simp)]; rfl
              | false => rfl
            · rw [compL_map (fun k : Nat => D.int k) (fun y => if decide (y ≠ x) = true then [D.int y] else []) fun y hy => ?_]
              · congr 1
                generalize [v, u, a, b, c] = l
                induction l with
                | nil => rfl
                | cons y l ih =>
                  rw [List.flatMap_cons, ih, List.filter_cons]
                  split <;> rfl
              · rw [b2_ok, ne_ii, b1_ok, isB_bl]
                by_cases h : y = x
                · simp [h]; rfl
                · have : ¬((y : Int) = x) := by omega
                  simp [h, this]; rfl
            · rw [List.length_map]
              have := List.length_filter_le (fun y => decide (y ≠ x)) [v, u, a, b, c]
              simp only [List.length_cons, List.length_nil] at this
              omega
  · rw [tup3, tup3, tup3, tup3, mlist_cons, mlist_cons, mlist_cons, mlist_cons, mlist_nil, bind_ok, bind_ok, bind_ok, bind_ok, b1_ok, lst_ok (by simp), bindC_ok, b1_ok, show pyItems (.lst [D.tup [D.int v, .int a, .int b], .tup [D.int v, .int a, .int c], .tup [D.int v, .int b, .int c], .tup [D.int a, .int b, .int c]]) = .ok ([(v, a, b), (v, a, c), (v, b, c), (a, b, c)].map t3D) from rfl]
    rw [lcM_ok (r := [ltr (f v a b), ltr (f v a c), ltr (f v b c), ltr (f a b c)].map fun x => strD [x]) rfl ?_ (by simp)]
    · rw [show (b2s pyJoin (.ok (.str "")) (.ok (.lst ([ltr (f v a b), ltr (f v a c), ltr (f v b c), ltr (f a b c)].map fun x => strD [x])))) = pyJoin (.str "") (.lst ([ltr (f v a b), ltr (f v a c), ltr (f v b c), ltr (f a b c)].map fun x => strD [x])) from rfl, join_signs (by simp), tup2, b2_ok, strD_LRLR, strD_RLRL, mem_str2, b1_ok, isB_bl, bindC_ok]
      unfold g4 b4
      cases (decide ([ltr (f v a b), ltr (f v a c), ltr (f v b c), ltr (f a b c)] = [76, 82, 76, 82]) || decide ([ltr (f v a b), ltr (f v a c), ltr (f v b c), ltr (f a b c)] = [82, 76, 82, 76])) with
      | true => rw [tup4]; rfl
      | false => rfl
    · have := compL_map (f := fun v4_t => un3 .stk v4_t fun v5_p v6_q v7_r => elM (.ok true) (b2 pyIx (.ok (strD w)) (b1 m_position (mlist [.ok v5_p, .ok v6_q, .ok v7_r])))) t3D (fun t => [strD [ltr (f t.1 t.2.1 t.2.2)]]) (xs := [(v, a, b), (v, a, c), (v, b, c), (a, b, c)]) fun t ht => by
        have : t.1 < t.2.1 ∧ t.2.1 < t.2.2 ∧ t.2.2 ≤ c := by
          simp only [List.mem_cons, List.not_mem_nil, or_false] at ht
          rcases ht with rfl | rfl | rfl | rfl <;> (dsimp only; omega)
        show elM _ (b2 pyIx (.ok (strD w)) (b1 m_position (mlist [.ok (.int t.1), .ok (.int t.2.1), .ok (.int t.2.2)]))) = _
        rw [hp _ _ _ this.1 this.2.1 this.2.2]
        exact elM_t rfl
      exact this
theorem breach_ok {w : List Nat} {f : Nat → Nat → Nat → Int} {n : Nat} (R : Rd8 w f (· < n)) (hw : w.length < 1000000) (hn : n ≤ 8) : m_breach [strD w, .int n] = .ok (optD (brch f n)) := by
  show (c_breach (strD w) (.int n)).toM = _
  unfold c_breach
  rw [mlist_cons, mlist_nil, bind_ok, b1_ok, threes_ok hn, b1_ok, show pyItems (.lst ((thr n).map t3D)) = .ok ((thr n).map t3D) from rfl, bindC_ok, loopM_find t3D (fun t => lbr f t.1 t.2.1 t.2.2) fun t ht => ?_, ctl_out]
  · unfold brch
    cases (thr n).findSome? fun t => lbr f t.1 t.2.1 t.2.2 <;> rfl
  · obtain ⟨h1, h2, h3⟩ := mem_thr.mp ht
    show un3 (Ctl.stk : Ctl Unit Unit) (.tup [D.int t.1, .int t.2.1, .int t.2.2]) _ = _
    rw [un3_t, mlist_cons, mlist_cons, mlist_cons, mlist_cons, mlist_nil, bind_ok, bind_ok, bind_ok, bind_ok, b1_ok, last_ok (fun x y z k1 k2 kx ky kz => R x y z k1 k2 (by dsimp only at *; omega) (by dsimp only at *; omega) (by dsimp only at *; omega)) hw h1 h2 (by omega), bindC_ok, b2_ok]
    have hnn : ∀ d, lbr f t.1 t.2.1 t.2.2 = some d → isNon d = false := by
      intro d hd
      unfold lbr at hd
      rw [Option.or_eq_some_iff] at hd
      rcases hd with hd | ⟨_, hd⟩
      · obtain ⟨u, _, hu⟩ := List.exists_of_findSome?_eq_some hd
        unfold g4 at hu
        split at hu
        · cases hu; rfl
        · cases hu
      · obtain ⟨u, _, hu⟩ := List.exists_of_findSome?_eq_some hd
        obtain ⟨v, _, hv⟩ := List.exists_of_findSome?_eq_some hu
        obtain ⟨x, _, hx⟩ := List.exists_of_findSome?_eq_some hv
        unfold g5 at hx
        split at hx
        · split at hx
          · cases hx; rfl
          · cases hx
        · cases hx
    show ((b1 isB (.ok (.bl (!isNon (optD (lbr f t.1 t.2.1 t.2.2)))))).bindC () fun c => if c = true then _ else _) = _
    cases hq : lbr f t.1 t.2.1 t.2.2 with
    | none => rfl
    | some d =>
      rw [b1_ok, isB_bl, bindC_ok, show optD (some d) = d from rfl, hnn d hq]
      rfl
end Mir
namespace Mir
open PySem PySem.Spec L2

/-! ### tables -/
/-- f tells the turns of n posts: 1 or -1, no rule broken -/
structure TabF (n : Nat) (f : Nat → Nat → Nat → Int) : Prop where
  lo : 3 ≤ n
  hi : n ≤ 8
  pm : ∀ a b c, a < b → b < c → c < n → f a b c = 1 ∨ f a b c = -1
  ru : brch f n = none
def tabD (n : Nat) (f : Nat → Nat → Nat → Int) : D := .obj 1 [("letters", strD (lw n f)), ("posts", .int n)]
theorem TabF.rd {n : Nat} {f : Nat → Nat → Nat → Int} (t : TabF n f) : Rd8 (lw n f) f (· < n) := fun x y z h1 h2 _ _ h3 => lw_rd t.hi (by rcases t.pm x y z h1 h2 h3 with h | h <;> simp [h]) h1 h2 h3
theorem TabF.len {n : Nat} {f : Nat → Nat → Nat → Int} (t : TabF n f) : (lw n f).length < 1000000 := by have := lw_len (f := f) t.hi; omega
theorem TabF.turn {n : Nat} {f : Nat → Nat → Nat → Int} (t : TabF n f) {a b c : Nat} (ha : a < n) (hb : b < n) (hc : c < n) (hab : a ≠ b) (hac : a ≠ c) (hbc : b ≠ c) : m_turn_of [strD (lw n f), .int a, .int b, .int c] = .ok (.int (tn f a b c)) :=
  (t.rd.turn t.len (fun x h => by have := t.hi; omega) ha hb hc hab hac hbc).1
theorem tn_pm {n : Nat} {f : Nat → Nat → Nat → Int} (pm : ∀ a b c, a < b → b < c → c < n → f a b c = 1 ∨ f a b c = -1) {a b c : Nat} (ha : a < n) (hb : b < n) (hc : c < n) (hab : a ≠ b) (hac : a ≠ c) (hbc : b ≠ c) : tn f a b c = 1 ∨ tn f a b c = -1 := by
  unfold tn
  rcases Nat.lt_or_gt_of_ne hab with h1 | h1 <;> rcases Nat.lt_or_gt_of_ne hbc with h2 | h2 <;> rcases Nat.lt_or_gt_of_ne hac with h3 | h3 <;> try omega
  · have := pm a b c (by omega) (by omega) (by omega); split <;> (try split) <;> omega
  · have := pm a c b (by omega) (by omega) (by omega); split <;> (try split) <;> omega
  · have := pm c a b (by omega) (by omega) (by omega); split <;> (try split) <;> omega
  · have := pm b a c (by omega) (by omega) (by omega); split <;> (try split) <;> omega
  · have := pm b c a (by omega) (by omega) (by omega); split <;> (try split) <;> omega
  · have := pm c b a (by omega) (by omega) (by omega); split <;> (try split) <;> omega

/-! ### the sizes -/
abbrev sizes : List (Int × Int) := [(1, 3), (4, 4), (10, 5), (20, 6), (35, 7), (56, 8)]
theorem thr_len_dec : ((List.range 9).all fun n => decide (n < 3) || decide (sizes.lookup ((thr n).length : Int) = some (n : Int))) = true := by decide +kernel
theorem size_lw {n : Nat} {f : Nat → Nat → Nat → Int} (h3 : 3 ≤ n) (h8 : n ≤ 8) : sizes.lookup ((lw n f).length : Int) = some (n : Int) := by
  have h := thr_len_dec
  simp only [List.all_eq_true, List.mem_range, Bool.or_eq_true, decide_eq_true_eq] at h
  have := (h n (by omega)).resolve_left (by omega)
  unfold lw
  rw [List.length_map]
  exact this
theorem kdIn_lw {n : Nat} {f : Nat → Nat → Nat → Int} (h3 : 3 ≤ n) (h8 : n ≤ 8) : kdIn [(1, 3), (4, 4), (10, 5), (20, 6), (35, 7), (56, 8)] true (.int (lw n f).length) = .ok (.bl false) := by
  show M.ok (D.bl (!(sizes.lookup ((lw n f).length : Int)).isSome)) = _
  rw [size_lw h3 h8]
  rfl
theorem kdGet_lw {n : Nat} {f : Nat → Nat → Nat → Int} (h3 : 3 ≤ n) (h8 : n ≤ 8) : kdGet [(1, 3), (4, 4), (10, 5), (20, 6), (35, 7), (56, 8)] (.int (lw n f).length) = .ok (.int n) := by
  show (ofOpt (sizes.lookup ((lw n f).length : Int))).bind (fun v => M.ok (D.int v)) = _
  rw [size_lw h3 h8]
  rfl
theorem takeWhile_all {p : Nat → Bool} : ∀ {l : List Nat}, (∀ x ∈ l, p x = true) → l.takeWhile p = l
  | [], _ => rfl
  | a :: l, h => by rw [List.takeWhile_cons, if_pos (h a (by simp)), takeWhile_all fun x hx => h x (by simp [hx])]
theorem strip_LR {l : List Nat} (hl : l.length < 1000000) (h : ∀ x ∈ l, x = 76 ∨ x = 82) : pyStripC (strD l) (.str "LR") = .ok (strD []) := by
  show (if Str.length ⟨l.toArray⟩ ≤ sizeLine then M.ok (D.str (Txt.stripChars ⟨l.toArray⟩ "LR")) else .stk) = _
  rw [str_len, if_pos (Nat.le_of_lt (sz_big hl))]
  unfold strD Txt.stripChars Txt.stripBy
  have hg : ∀ x ∈ l, (("LR" : Str).cps.contains x) = true := fun x hx => by
    rw [show ("LR" : Str).cps = #[76, 82] from rfl]
    rcases h x hx with h | h <;> subst h <;> simp
  have e1 : stripLo ("LR" : Str).cps.contains true ⟨l.toArray⟩ = l.length := by
    unfold stripLo
    rw [if_pos rfl]
    show (List.takeWhile _ l.toArray.toList).length = _
    rw [List.toList_toArray, takeWhile_all hg]
  have e2 : stripHi ("LR" : Str).cps.contains true ⟨l.toArray⟩ l.length = l.length := by
    unfold stripHi
    rw [if_pos rfl, str_len]
    show l.length - (List.takeWhile _ (List.drop l.length l.toArray.toList).reverse).length = _
    simp
  unfold stripSame
  rw [e1, e2, str_len]
  cases l with
  | nil => rfl
  | cons a l =>
    rw [if_neg (by simp)]
    unfold stripped
    rw [e1, e2]
    unfold Builtin.Str.strSub
    congr 3
    simp
theorem ltr_LR {n : Nat} {f : Nat → Nat → Nat → Int} (pm : ∀ a b c, a < b → b < c → c < n → f a b c = 1 ∨ f a b c = -1) : ∀ x ∈ lw n f, x = 76 ∨ x = 82 := by
  intro x hx
  unfold lw at hx
  obtain ⟨t, ht, rfl⟩ := List.mem_map.mp hx
  obtain ⟨h1, h2, h3⟩ := mem_thr.mp ht
  unfold ltr
  rcases pm _ _ _ h1 h2 h3 with h | h <;> simp [h]
/-! ### Table(letters) -/
abbrev strT : List (String × Bool) := [("NoneType", false), ("bool", false), ("int", false), ("str", true), ("list", false), ("tuple", false)]
abbrev intT : List (String × Bool) := [("NoneType", false), ("bool", true), ("int", true), ("str", false), ("list", false), ("tuple", false)]
abbrev boolT : List (String × Bool) := [("NoneType", false), ("bool", true), ("int", false), ("str", false), ("list", false), ("tuple", false)]
theorem isi_str {l : List Nat} : isiD strT [(1, false)] (strD l) = .ok (.bl true) := rfl
theorem isi_int {i : Int} : isiD intT [(1, false)] (.int i) = .ok (.bl true) := rfl
theorem isi_int_b {i : Int} : isiD boolT [(1, false)] (.int i) = .ok (.bl false) := rfl
theorem init_tab {n : Nat} {f : Nat → Nat → Nat → Int} (t : TabF n f) : m_Table___init [strD (lw n f)] = .ok [("letters", strD (lw n f)), ("posts", .int n)] := by
  show (c_Table___init (strD (lw n f))).toF = _
  unfold c_Table___init
  simp only [mlist_cons, mlist_nil, bind_ok, b1_ok]
  rw [isi_str, b1_ok, truth_b, notM_ok, orM_ok, if_neg (by simp), len_strD t.len, b1_ok, kdIn_lw t.lo t.hi, b1_ok, isB_bl, orM_ok, if_neg (by simp)]
  rw [show b2s pyStripC (.ok (strD (lw n f))) (.ok (.str "LR")) = pyStripC (strD (lw n f)) (.str "LR") from rfl, strip_LR t.len (ltr_LR t.pm), strD_nil, b2_ok, ne_strD, b1_ok, isB_bl, bindC_ok]
  simp only [decide_true, Bool.not_true, if_neg Bool.false_ne_true]
  rw [b1_ok, kdGet_lw t.lo t.hi, bindC_ok, breach_ok t.rd t.len t.hi, t.ru, bindC_ok]
  rfl
theorem make_tab {n : Nat} {f : Nat → Nat → Nat → Int} (t : TabF n f) : mkO 1 m_Table___init [strD (lw n f)] = .ok (tabD n f) := by
  show (m_Table___init [strD (lw n f)]).bind _ = _
  rw [init_tab t]
  rfl
theorem fld_letters {n : Nat} {f : Nat → Nat → Nat → Int} : pyFld 1 "letters" (tabD n f) = .ok (strD (lw n f)) := rfl
theorem fld_posts {n : Nat} {f : Nat → Nat → Nat → Int} : pyFld 1 "posts" (tabD n f) = .ok (.int n) := by
  show ofOpt (([("letters", strD (lw n f)), ("posts", .int n)] : List (Str × D)).lookup ("posts" : Str)) = _
  have : (([("letters", strD (lw n f)), ("posts", .int n)] : List (Str × D)).lookup ("posts" : Str)) = some (.int n) := by
    rw [List.lookup_cons, show (("posts" : Str) == ("letters" : Str)) = false by decide, List.lookup_cons]
    rfl
  rw [this]
  rfl
theorem getitem_tab {n : Nat} {f : Nat → Nat → Nat → Int} {a b c : Int} : m_Table___getitem [tabD n f, .tup [.int a, .int b, .int c]] = if chk3 n a b c = true then m_turn_of [strD (lw n f), .int a, .int b, .int c] else .exn ⟨1, []⟩ := by
  show (c_Table___getitem (tabD n f) (.tup [.int a, .int b, .int c])).toM = _
  unfold c_Table___getitem
  simp only [bindC_ok, un3_t, mlist_cons, mlist_nil, bind_ok, b1_ok, fld_letters, fld_posts]
  rw [tup_ok (by simp)]
  simp only [mlist_cons, mlist_nil, bind_ok, b1_ok]
  rw [check_posts_ok]
  cases chk3 n a b c with
  | true =>
    rw [if_pos rfl, if_pos rfl, bindC_ok]
    cases m_turn_of [strD (lw n f), .int a, .int b, .int c] <;> rfl
  | false => rfl
theorem contains_tab {n : Nat} {f : Nat → Nat → Nat → Int} {a b c : Int} : m_Table___contains [tabD n f, .tup [.int a, .int b, .int c]] = if chk3 n a b c = true then b2 pyEq (m_turn_of [strD (lw n f), .int a, .int b, .int c]) (.ok (.int 1)) else .exn ⟨1, []⟩ := by
  show (c_Table___contains (tabD n f) (.tup [.int a, .int b, .int c])).toM = _
  unfold c_Table___contains
  simp only [bindC_ok, un3_t, mlist_cons, mlist_nil, bind_ok, b1_ok, fld_letters, fld_posts]
  rw [tup_ok (by simp)]
  simp only [mlist_cons, mlist_nil, bind_ok, b1_ok]
  rw [check_posts_ok]
  cases chk3 n a b c with
  | true =>
    rw [if_pos rfl, if_pos rfl, bindC_ok]
    cases b2 pyEq (m_turn_of [strD (lw n f), .int a, .int b, .int c]) (.ok (.int 1)) <;> rfl
  | false => rfl
theorem chk3_nat {n a b c : Nat} (ha : a < n) (hb : b < n) (hc : c < n) (hab : a ≠ b) (hac : a ≠ c) (hbc : b ≠ c) : chk3 n a b c = true := chk3_iff.mpr (by omega)
/-- table[a, b, c], (a, b, c) in table -/
theorem sub_tab {n : Nat} {f : Nat → Nat → Nat → Int} {a b c : Int} : subO 1 m_Table___getitem (tabD n f) (.tup [.int a, .int b, .int c]) = if chk3 n a b c = true then m_turn_of [strD (lw n f), .int a, .int b, .int c] else .exn ⟨1, []⟩ := by
  rw [← getitem_tab]
  rfl
theorem in_tab {n : Nat} {f : Nat → Nat → Nat → Int} {a b c : Int} : inO 1 m_Table___contains false (.tup [.int a, .int b, .int c]) (tabD n f) = b1 (negB false) (if chk3 n a b c = true then b2 pyEq (m_turn_of [strD (lw n f), .int a, .int b, .int c]) (.ok (.int 1)) else .exn ⟨1, []⟩) := by
  rw [← contains_tab]
  rfl
theorem sub_tab_ok {n : Nat} {f : Nat → Nat → Nat → Int} (t : TabF n f) {a b c : Nat} (ha : a < n) (hb : b < n) (hc : c < n) (hab : a ≠ b) (hac : a ≠ c) (hbc : b ≠ c) : subO 1 m_Table___getitem (tabD n f) (.tup [.int a, .int b, .int c]) = .ok (.int (tn f a b c)) := by
  rw [sub_tab, chk3_nat ha hb hc hab hac hbc, if_pos rfl, t.turn ha hb hc hab hac hbc]
theorem in_tab_ok {n : Nat} {f : Nat → Nat → Nat → Int} (t : TabF n f) {a b c : Nat} (ha : a < n) (hb : b < n) (hc : c < n) (hab : a ≠ b) (hac : a ≠ c) (hbc : b ≠ c) : inO 1 m_Table___contains false (.tup [.int a, .int b, .int c]) (tabD n f) = .ok (.bl (decide (tn f a b c = 1))) := by
  rw [in_tab, chk3_nat ha hb hc hab hac hbc, if_pos rfl, t.turn ha hb hc hab hac hbc, b2_ok, eq_ii, b1_ok]
  rfl

/-! ### rules and posts -/
theorem findSome?_none {α β : Type} {g : α → Option β} {l : List α} (h : ∀ x ∈ l, g x = none) : l.findSome? g = none := by rw [List.findSome?_eq_none_iff]; exact h
/-- letters that keep both rules -/
theorem brch_none {n : Nat} {f : Nat → Nat → Nat → Int} (h4 : ∀ w a b c, w < a → a < b → b < c → c < n → b4 f w a b c = false) (h5 : ∀ x p q r s, p < q → q < r → r < s → s < n → x < n → x ≠ p → x ≠ q → x ≠ r → x ≠ s → b5 (tn f) x p q r s = false) : brch f n = none := by
  refine findSome?_none fun t ht => ?_
  obtain ⟨k1, k2, k3⟩ := mem_thr.mp ht
  unfold lbr
  rw [Option.or_eq_none_iff]
  refine ⟨findSome?_none fun w hw => ?_, findSome?_none fun w hw => findSome?_none fun v hv => findSome?_none fun x hx => ?_⟩
  · unfold g4
    rw [h4 w _ _ _ (List.mem_range.mp hw) k1 k2 k3]
    rfl
  · have hw := List.mem_range.mp hw
    have hv := List.mem_range.mp hv
    obtain ⟨p, q, r, s, e, q1, q2, q3, q4, q5, q6, q7, q8, q9⟩ := filt5 hv hw k1 k2 hx
    unfold g5
    rw [e]
    have hxn : x < n := by
      simp only [List.mem_cons, List.not_mem_nil, or_false] at hx
      omega
    dsimp only
    rw [h5 x p q r s q1 q2 q3 (by omega) hxn q4 q5 q6 q7]
    rfl
theorem b4_of {n : Nat} {f : Nat → Nat → Nat → Int} (pm : ∀ a b c, a < b → b < c → c < n → f a b c = 1 ∨ f a b c = -1) (r : R4 f n) {w a b c : Nat} (h1 : w < a) (h2 : a < b) (h3 : b < c) (h4 : c < n) : b4 f w a b c = false := by
  have k := r w a b c h1 h2 h3 h4
  unfold b4 ltr
  rcases pm w a b (by omega) (by omega) (by omega) with e1 | e1 <;> rcases pm w a c (by omega) (by omega) (by omega) with e2 | e2 <;> rcases pm w b c (by omega) (by omega) (by omega) with e3 | e3 <;> rcases pm a b c (by omega) (by omega) (by omega) with e4 | e4 <;> simp [e1, e2, e3, e4] at k ⊢
theorem b5_of {t : Nat → Nat → Nat → Int} {x a b c d : Nat} : b5 t x a b c d = true ↔ brk5 t x a b c d := by
  unfold b5 brk5
  simp only [Bool.and_eq_true, decide_eq_true_eq]
theorem pt_tab {ps : List Pt} (g : GP ps) (h3 : 3 ≤ ps.length) (h8 : ps.length ≤ 8) : TabF ps.length (ptT ps) := by
  have pm : ∀ a b c, a < b → b < c → c < ps.length → ptT ps a b c = 1 ∨ ptT ps a b c = -1 := fun a b c h1 h2 h3 => g.turn (by omega) (by omega) h3 (by omega) (by omega) (by omega)
  refine ⟨h3, h8, pm, brch_none (fun w a b c h1 h2 h3 h4 => b4_of pm (pt_r4 g) h1 h2 h3 h4) fun x p q r s _ _ _ _ _ _ _ _ _ => ?_⟩
  have e : tn (ptT ps) = ptT ps := by funext a b c; exact tn_pt ps a b c
  rw [e]
  cases hb : b5 (ptT ps) x p q r s with
  | false => rfl
  | true => exact absurd (b5_of.mp hb) pt_r5
end Mir
namespace Mir
open PySem PySem.Spec L2

/-! ### == of plain data (no truth values) -/
mutual
def stdD : D → Bool
  | .non => true
  | .int _ => true
  | .str x => PyData.strOk x
  | .tup xs => stdDs xs
  | .lst xs => stdDs xs
  | _ => false
def stdDs : List D → Bool
  | [] => true
  | d :: ds => stdD d && stdDs ds
end
mutual
def depD : D → Nat
  | .tup xs => depDs xs + 1
  | .lst xs => depDs xs + 1
  | _ => 0
def depDs : List D → Nat
  | [] => 0
  | d :: ds => max (depD d) (depDs ds)
end
mutual
theorem std_py : ∀ {d : D}, stdD d = true → ∃ p, toPy d = some p ∧ p.canLay0 = true ∧ p.depth = depD d
  | .non, _ => ⟨.none, rfl, rfl, rfl⟩
  | .int i, _ => ⟨.int i, rfl, rfl, rfl⟩
  | .str x, h => ⟨.str x, rfl, by simpa [stdD, PyData.canLay0] using h, rfl⟩
  | .tup xs, h => by
    obtain ⟨ps, e, c, d⟩ := std_pys (ds := xs) (by simpa [stdD] using h)
    exact ⟨.tuple ps, by simp [toPy, e], by simpa [PyData.canLay0] using c, by simp [PyData.depth, depD, d]⟩
  | .lst xs, h => by
    obtain ⟨ps, e, c, d⟩ := std_pys (ds := xs) (by simpa [stdD] using h)
    exact ⟨.list ps, by simp [toPy, e], by simpa [PyData.canLay0] using c, by simp [PyData.depth, depD, d]⟩
  | .bl _, h => by simp [stdD] at h
  | .dct _, h => by simp [stdD] at h
  | .dks _, h => by simp [stdD] at h
  | .obj _ _, h => by simp [stdD] at h
  | .slf _ _ _, h => by simp [stdD] at h
  | .scr _, h => by simp [stdD] at h
theorem std_pys : ∀ {ds : List D}, stdDs ds = true → ∃ ps, toPys ds = some ps ∧ PyData.canLayAll0 ps = true ∧ PyData.depthAll ps = depDs ds
  | [], _ => ⟨[], rfl, rfl, rfl⟩
  | d :: ds, h => by
    have h : stdD d = true ∧ stdDs ds = true := by simpa [stdDs] using h
    obtain ⟨p, e, c, q⟩ := std_py h.1
    obtain ⟨ps, e', c', q'⟩ := std_pys h.2
    exact ⟨p :: ps, by simp [toPys, e, e'], by simp [PyData.canLayAll0, c, c'], by simp [PyData.depthAll, depDs, q, q']⟩
end
mutual
theorem eqv_std : ∀ {d e : D} {p q : PyData}, stdD d = true → stdD e = true → toPy d = some p → toPy e = some q → (PyData.eqv p q = true ↔ d = e)
  | .non, e, p, q, _, h, a, b => by
    cases a
    cases e <;> simp [stdD, toPy] at h b <;> (try subst b) <;> (try (obtain ⟨_, _, rfl⟩ := b)) <;> simp [PyData.eqv]
  | .int i, e, p, q, _, h, a, b => by
    cases a
    cases e <;> simp [stdD, toPy] at h b <;> (try subst b) <;> (try (obtain ⟨_, _, rfl⟩ := b)) <;> simp [PyData.eqv]
  | .str x, e, p, q, _, h, a, b => by
    cases a
    cases e <;> simp [stdD, toPy] at h b <;> (try subst b) <;> (try (obtain ⟨_, _, rfl⟩ := b)) <;> simp [PyData.eqv]
  | .tup xs, e, p, q, g, h, a, b => by
    have g : stdDs xs = true := by simpa [stdD] using g
    obtain ⟨ps, ep, rfl⟩ : ∃ ps, toPys xs = some ps ∧ .tuple ps = p := by simpa [toPy] using a
    cases e with
    | tup ys =>
      have h : stdDs ys = true := by simpa [stdD] using h
      obtain ⟨qs, eq, rfl⟩ : ∃ ps, toPys ys = some ps ∧ .tuple ps = q := by simpa [toPy] using b
      rw [PyData.eqv, eqvs_std g h ep eq, D.tup.injEq]
    | lst ys =>
      obtain ⟨qs, eq, rfl⟩ : ∃ ps, toPys ys = some ps ∧ .list ps = q := by simpa [toPy] using b
      simp [PyData.eqv]
    | _ => simp [stdD, toPy] at h b <;> (try subst b) <;> simp [PyData.eqv]
  | .lst xs, e, p, q, g, h, a, b => by
    have g : stdDs xs = true := by simpa [stdD] using g
    obtain ⟨ps, ep, rfl⟩ : ∃ ps, toPys xs = some ps ∧ .list ps = p := by simpa [toPy] using a
    cases e with
    | lst ys =>
      have h : stdDs ys = true := by simpa [stdD] using h
      obtain ⟨qs, eq, rfl⟩ : ∃ ps, toPys ys = some ps ∧ .list ps = q := by simpa [toPy] using b
      rw [PyData.eqv, eqvs_std g h ep eq, D.lst.injEq]
    | tup ys =>
      obtain ⟨qs, eq, rfl⟩ : ∃ ps, toPys ys = some ps ∧ .tuple ps = q := by simpa [toPy] using b
      simp [PyData.eqv]
    | _ => simp [stdD, toPy] at h b <;> (try subst b) <;> simp [PyData.eqv]
  | .bl _, _, _, _, h, _, _, _ => by simp [stdD] at h
  | .dct _, _, _, _, h, _, _, _ => by simp [stdD] at h
  | .dks _, _, _, _, h, _, _, _ => by simp [stdD] at h
  | .obj _ _, _, _, _, h, _, _, _ => by simp [stdD] at h
  | .slf _ _ _, _, _, _, h, _, _, _ => by simp [stdD] at h
  | .scr _, _, _, _, h, _, _, _ => by simp [stdD] at h
theorem eqvs_std : ∀ {ds es : List D} {ps qs : List PyData}, stdDs ds = true → stdDs es = true → toPys ds = some ps → toPys es = some qs → (PyData.eqvAll ps qs = true ↔ ds = es)
  | [], es, ps, qs, _, h, a, b => by
    cases a
    cases es with
    | nil => cases b; simp [PyData.eqvAll]
    | cons e es =>
      have h : stdD e = true ∧ stdDs es = true := by simpa [stdDs] using h
      obtain ⟨p, e1, _, _⟩ := std_py h.1
      obtain ⟨ps, e2, _, _⟩ := std_pys h.2
      simp [toPys, e1, e2] at b
      subst b
      simp [PyData.eqvAll]
  | d :: ds, es, ps, qs, g, h, a, b => by
    have g : stdD d = true ∧ stdDs ds = true := by simpa [stdDs] using g
    obtain ⟨p, e1, _, _⟩ := std_py g.1
    obtain ⟨ps', e2, _, _⟩ := std_pys g.2
    simp [toPys, e1, e2] at a
    subst a
    cases es with
    | nil => cases b; simp [PyData.eqvAll]
    | cons e es =>
      have h : stdD e = true ∧ stdDs es = true := by simpa [stdDs] using h
      obtain ⟨q, e3, _, _⟩ := std_py h.1
      obtain ⟨qs', e4, _, _⟩ := std_pys h.2
      simp [toPys, e3, e4] at b
      subst b
      rw [PyData.eqvAll, Bool.and_eq_true, eqv_std g.1 h.1 e1 e3, eqvs_std g.2 h.2 e2 e4, List.cons.injEq]
end
theorem eqS_std {x y : D} (hx : stdD x = true) (hy : stdD y = true) (h : scalD x y = true) : eqS x y = true ↔ x = y := by
  cases x <;> cases y <;> simp [scalD, eqS, stdD] at h hx hy ⊢
theorem eqD_std {x y : D} (hx : stdD x = true) (hy : stdD y = true) (dx : depD x ≤ 64) (dy : depD y ≤ 64) : ∃ b, eqD x y = .ok b ∧ (b = true ↔ x = y) := by
  unfold eqD
  by_cases h : scalD x y = true
  · rw [if_pos h]
    exact ⟨_, rfl, eqS_std hx hy h⟩
  · rw [if_neg h]
    obtain ⟨p, e1, c1, d1⟩ := std_py hx
    obtain ⟨q, e2, c2, d2⟩ := std_py hy
    rw [e1, e2]
    dsimp only
    have s1 : SeqAt.shaped p = true := by unfold SeqAt.shaped; rw [c1, d1, decide_eq_true dx]; rfl
    have s2 : SeqAt.shaped q = true := by unfold SeqAt.shaped; rw [c2, d2, decide_eq_true dy]; rfl
    rw [if_pos ⟨s1, s2⟩]
    exact ⟨_, rfl, eqv_std hx hy e1 e2⟩
theorem eq_std {x y : D} (hx : stdD x = true) (hy : stdD y = true) (dx : depD x ≤ 64) (dy : depD y ≤ 64) : ∃ b : Bool, pyEq x y = .ok (.bl b) ∧ pyNe x y = .ok (.bl (!b)) ∧ (b = true ↔ x = y) := by
  obtain ⟨b, e, h⟩ := eqD_std hx hy dx dy
  refine ⟨b, ?_, ?_, h⟩
  · unfold pyEq; rw [e]; rfl
  · unfold pyNe; rw [e]; rfl
theorem eq_same {x : D} (hx : stdD x = true) (dx : depD x ≤ 64) : pyEq x x = .ok (.bl true) ∧ pyNe x x = .ok (.bl false) := by
  obtain ⟨b, e1, e2, h⟩ := eq_std hx hx dx dx
  have := h.mpr rfl
  subst this
  exact ⟨e1, e2⟩
theorem stdDs_all {l : List D} (h : ∀ d ∈ l, stdD d = true) : stdDs l = true := by
  induction l with
  | nil => rfl
  | cons d l ih => simp [stdDs, h d (by simp), ih fun e he => h e (by simp [he])]
theorem depDs_le {l : List D} {k : Nat} (h : ∀ d ∈ l, depD d ≤ k) : depDs l ≤ k := by
  induction l with
  | nil => simp [depDs]
  | cons d l ih =>
    have := h d (by simp)
    have := ih fun e he => h e (by simp [he])
    simp [depDs]
    omega
theorem strOk_of {l : List Nat} (h : ∀ x ∈ l, x < 1114112) : PyData.strOk ⟨l.toArray⟩ = true := by
  unfold PyData.strOk
  simpa using h
theorem std_str {l : List Nat} (h : ∀ x ∈ l, x < 1114112) : stdD (strD l) = true := by
  unfold strD
  simp only [stdD]
  exact strOk_of h
end Mir
namespace Mir
open PySem PySem.Spec L2

def c_Table___eq (p_self p_other : D) : Ctl Unit Unit := M.bindC (andV (b1 (isiD [("NoneType", false), ("bool", false), ("int", false), ("str", false), ("list", false), ("tuple", false)] [(1, true)]) (.ok p_other)) (andV (b2 pyEq (b1 (pyFld 1 "posts") (.ok p_self)) (b1 (pyFld 1 "posts") (.ok p_other))) (b2 pyEq (b1 (pyFld 1 "letters") (.ok p_self)) (b1 (pyFld 1 "letters") (.ok p_other))))) () Ctl.ret
def m_Table___eq : List D → M D := ar2 c_Table___eq
def c_Table___lt (p_self p_other : D) : Ctl Unit Unit := M.bindC (notM (b1 pyTruth (b1 (isiD [("NoneType", false), ("bool", false), ("int", false), ("str", false), ("list", false), ("tuple", false)] [(1, true)]) (.ok p_other)))) () fun c => if c = true then .stk else M.bindC (b2 ltD (b1 mkTup (mlist [b1 (pyFld 1 "posts") (.ok p_self), b1 (pyFld 1 "letters") (.ok p_self)])) (b1 mkTup (mlist [b1 (pyFld 1 "posts") (.ok p_other), b1 (pyFld 1 "letters") (.ok p_other)]))) () Ctl.ret
def m_Table___lt : List D → M D := ar2 c_Table___lt
def c_Table___neg (p_self : D) : Ctl Unit Unit := M.bindC (b1 (mkO 1 m_Table___init) (mlist [b2s pyJoin (.ok (.str "")) (lcM (b1 pyItems (b1 (pyFld 1 "letters") (.ok p_self))) (fun v1_letter => elM (.ok true) (ifM (b1 isB (b2 pyEq (.ok v1_letter) (.ok (.str "L")))) (.ok (.str "R")) (.ok (.str "L")))))])) () Ctl.ret
def m_Table___neg : List D → M D := ar1 c_Table___neg
def c_l_can_pass (p_turns_here p_posts p_a p_b p_c : D) : Ctl Unit Unit := M.bindC (b1 pyRange1 (mlist [.ok p_posts])) () fun v4_ds => (forC (X := Unit) (S := Unit) (fun v2_d (v1_j : Unit) => (M.bindC (andM (b1 isB (b2 pyNe (.ok v2_d) (.ok p_a))) (andM (b1 isB (b2 pyNe (.ok v2_d) (.ok p_b))) (b1 isB (b2 pyNe (.ok v2_d) (.ok p_c))))) () fun c => if c = true then (M.bindC (orM (b1 isB (b2 pyNe (b2 pyIx (.ok p_turns_here) (b1 mkTup (mlist [.ok v2_d, .ok p_a, .ok p_b]))) (b2 pyIx (.ok p_turns_here) (b1 mkTup (mlist [.ok v2_d, .ok p_b, .ok p_c]))))) (b1 isB (b2 pyNe (b2 pyIx (.ok p_turns_here) (b1 mkTup (mlist [.ok v2_d, .ok p_a, .ok p_b]))) (b2 pyIx (.ok p_turns_here) (b1 mkTup (mlist [.ok v2_d, .ok p_a, .ok p_c])))))) () fun c => if c = true then (M.bindC (.ok (.bl false)) () Ctl.ret) else .nx ()) else (.nx ()) : Ctl Unit Unit).bind fun (v3_j : Unit) => .nx ()) v4_ds ()).bind fun (v1_j : Unit) => M.bindC (.ok (.bl true)) () Ctl.ret
def m_l_can_pass : List D → M D := ar5 c_l_can_pass
def c_l_turned (p_turns_here p_a p_b p_c : D) : Ctl Unit Unit := M.bindC (.ok (.dct [])) () fun v1_new => M.bindC (keysM p_turns_here) () fun v7_ds => (Ctl.noX (Y := Unit) (forC (X := Unit) (S := D) (fun v3_key (v2_j : D) => M.bindC (setM v2_j (b2 pyIx (.ok p_turns_here) (.ok v3_key)) (.ok v3_key)) () fun v4_new => (M.bindC (andM (b1 isB (b2 (memD false) (.ok p_a) (.ok v3_key))) (andM (b1 isB (b2 (memD false) (.ok p_b) (.ok v3_key))) (b1 isB (b2 (memD false) (.ok p_c) (.ok v3_key))))) () fun c => if c = true then (M.bindC (setM v4_new (b1 pyNeg (b2 pyIx (.ok p_turns_here) (.ok v3_key))) (.ok v3_key)) () fun v6_new => .nx v6_new) else (.nx v4_new) : Ctl Unit D).bind fun (v5_j : D) => .nx v5_j) v7_ds v1_new)).bind fun (v2_j : D) => M.bindC (.ok v2_j) () Ctl.ret
def m_l_turned : List D → M D := ar4 c_l_turned
def c_l_ways (p_turns_here p_posts : D) : Ctl Unit Unit := M.bindC (b1 mkLst (mlist [])) () fun v1_ways_here => M.bindC (b1 pyRange1 (mlist [.ok p_posts])) () fun v12_ds => (forC (X := Unit) (S := D) (fun v3_a (v2_j : D) => M.bindC (b1 pyRange1 (mlist [.ok p_posts])) () fun v11_ds => (forC (X := Unit) (S := D) (fun v5_b (v4_j : D) => M.bindC (b1 pyRange2 (mlist [b2 pyAdd (.ok v3_a) (.ok (.int 1)), .ok p_posts])) () fun v10_ds => (forC (X := Unit) (S := D) (fun v7_c (v6_j : D) => (M.bindC (andM (b1 isB (b2 pyNe (.ok v5_b) (.ok v3_a))) (andM (b1 isB (b2 pyNe (.ok v5_b) (.ok v7_c))) (b1 pyTruth (b1 m_l_can_pass (mlist [.ok p_turns_here, .ok p_posts, .ok v3_a, .ok v5_b, .ok v7_c]))))) () fun c => if c = true then (M.bindC (appM v6_j (b1 mkTup (mlist [.ok v3_a, .ok v5_b, .ok v7_c]))) () fun v9_ways_here => .nx v9_ways_here) else (.nx v6_j) : Ctl Unit D).bind fun (v8_j : D) => .nx v8_j) v10_ds v4_j).bind fun (v6_j : D) => .nx v6_j) v11_ds v2_j).bind fun (v4_j : D) => .nx v4_j) v12_ds v1_ways_here).bind fun (v2_j : D) => M.bindC (.ok v2_j) () Ctl.ret
def m_l_ways : List D → M D := ar2 c_l_ways
def c_law_k04 (p_script : D) : Ctl Unit Unit := M.bindC (b1 m_l_pool (mlist [.ok p_script])) () fun v1_pool_here => M.bindC (b2 pyAdd (.ok (.int 3)) (b2 pyMod (b2 pyAdd (b1 m_l_draw (mlist [.ok v1_pool_here, .ok (.int 0), .ok (.int 6)])) (.ok (.int 2))) (.ok (.int 6)))) () fun v2_posts => M.bindC (b1 m_l_turns (mlist [b1 m_l_places (mlist [.ok v1_pool_here, .ok (.int 4), .ok v2_posts])])) () fun v3_turns_here => M.bindC (b1 m_l_letters (mlist [.ok v3_turns_here, .ok v2_posts])) () fun v4_letters_here => M.bindC (b1 m_l_draw (mlist [.ok v1_pool_here, .ok (.int 1), .ok (.int 4)])) () fun v5_kind => M.bindC (.ok v2_posts) () fun v6_others => M.bindC (.ok v4_letters_here) () fun v7_second => (M.bindC (b1 isB (b2 pyEq (.ok v5_kind) (.ok (.int 1)))) () fun c => if c = true then (M.bindC (b1 m_l_ways (mlist [.ok v3_turns_here, .ok v2_posts])) () fun v9_ways_here => (M.bindC (b1 isB (b2 pyNe (.ok v9_ways_here) (b1 mkLst (mlist [])))) () fun c => if c = true then (M.bindC (b2 pyIx (.ok v9_ways_here) (b1 m_l_draw (mlist [.ok v1_pool_here, .ok (.int 2), b1 pyLen (mlist [.ok v9_ways_here])]))) () fun v11_way => M.bindC (b1 m_l_letters (mlist [b1 m_l_turned (mlist [.ok v3_turns_here, b2 pyIx (.ok v11_way) (.ok (.int 0)), b2 pyIx (.ok v11_way) (.ok (.int 1)), b2 pyIx (.ok v11_way) (.ok (.int 2))]), .ok v2_posts])) () fun v12_second => .nx v12_second) else (.nx v7_second) : Ctl Unit D).bind fun (v10_j : D) => .nx v10_j) else (.nx v7_second) : Ctl Unit D).bind fun (v8_j : D) => (M.bindC (b1 isB (b2 pyGe (.ok v5_kind) (.ok (.int 2)))) () fun c => if c = true then (M.bindC (b2 pyIx (b1 mkLst (mlist [.ok v2_posts, b2 pyAdd (.ok (.int 3)) (b1 m_l_draw (mlist [.ok v1_pool_here, .ok (.int 2), .ok (.int 6)]))])) (b2 pySub (.ok v5_kind) (.ok (.int 2)))) () fun v14_others => M.bindC (b1 m_l_letters (mlist [b1 m_l_turns (mlist [b1 m_l_places (mlist [.ok v1_pool_here, .ok (.int 20), .ok v14_others])]), .ok v14_others])) () fun v15_second => .nx (v14_others, v15_second)) else (.nx (v6_others, v8_j)) : Ctl Unit (D × D)).bind fun (v13_j : D × D) => M.bindC (b1 (mkO 1 m_Table___init) (mlist [.ok v4_letters_here])) () fun v16_one => M.bindC (b1 (mkO 1 m_Table___init) (mlist [.ok v13_j.2])) () fun v17_two => M.bindC (orM (b1 isB (b2 pyNe (b2 (cmpO 1 m_Table___eq) (.ok v16_one) (.ok v17_two)) (b2 pyEq (.ok v4_letters_here) (.ok v13_j.2)))) (orM (b1 isB (b2 pyNe (b2 (cmpO 1 m_Table___eq) (.ok v17_two) (.ok v16_one)) (b2 pyEq (.ok v4_letters_here) (.ok v13_j.2)))) (notM (b1 isB (b2 (cmpO 1 m_Table___eq) (.ok v16_one) (b1 (mkO 1 m_Table___init) (mlist [.ok v4_letters_here]))))))) () fun c => if c = true then (M.bindC (.ok (.bl false)) () Ctl.ret) else M.bindC (orM (b1 isB (b2 pyNe (b2 (cmpO 1 m_Table___lt) (.ok v16_one) (.ok v17_two)) (b2 ltD (b1 mkTup (mlist [.ok v2_posts, .ok v4_letters_here])) (b1 mkTup (mlist [.ok v13_j.1, .ok v13_j.2]))))) (b1 isB (b2 pyNe (b2 (cmpO 1 m_Table___lt) (.ok v17_two) (.ok v16_one)) (b2 ltD (b1 mkTup (mlist [.ok v13_j.1, .ok v13_j.2])) (b1 mkTup (mlist [.ok v2_posts, .ok v4_letters_here])))))) () fun c => if c = true then (M.bindC (.ok (.bl false)) () Ctl.ret) else M.bindC (b1 isB (b2 (cmpO 1 m_Table___lt) (.ok v16_one) (.ok v16_one))) () fun c => if c = true then (M.bindC (.ok (.bl false)) () Ctl.ret) else M.bindC (b1 (unO 1 m_Table___neg) (.ok v16_one)) () fun v18_mirror => M.bindC (orM (b1 isB (b2 pyNe (b1 (pyFld 1 "letters") (.ok v18_mirror)) (b2s pyJoin (.ok (.str "")) (lcM (b1 pyItems (.ok v4_letters_here)) (fun v19_x => elM (.ok true) (b2 pyIx (b1 mkLst (mlist [.ok (.str "L"), .ok (.str "R")])) (b1 pyInt (mlist [b2 pyEq (.ok v19_x) (.ok (.str "L"))])))))))) (b1 isB (b2 pyNe (b1 (pyFld 1 "posts") (.ok v18_mirror)) (.ok v2_posts)))) () fun c => if c = true then (M.bindC (.ok (.bl false)) () Ctl.ret) else M.bindC (andV (b2 (cmpO 1 m_Table___eq) (b1 (unO 1 m_Table___neg) (.ok v18_mirror)) (.ok v16_one)) (andV (notV (b2 (cmpO 1 m_Table___eq) (.ok v18_mirror) (.ok v16_one))) (andV (b2 pyEq (b1 (pyFld 1 "letters") (.ok v16_one)) (.ok v4_letters_here)) (b2 pyEq (b1 (pyFld 1 "letters") (.ok v17_two)) (.ok v13_j.2))))) () Ctl.ret
def m_law_k04 : List D → M D := ar1 c_law_k04
end Mir
namespace Mir
/-! ### tables of turns: all orders -/
abbrev Tn := Nat → Nat → Nat → Int
/-- four posts break their rule -/
def Q4 (t : Tn) (w a b c : Nat) : Prop := t w a b = - t w a c ∧ - t w a c = t w b c ∧ t w b c = - t a b c
/-- t is alternating on different posts -/
structure Alt (t : Tn) : Prop where
  s1 : ∀ a b c, a ≠ b → a ≠ c → b ≠ c → t b a c = - t a b c
  s2 : ∀ a b c, a ≠ b → a ≠ c → b ≠ c → t a c b = - t a b c
structure Tb (n : Nat) (t : Tn) : Prop where
  lo : 3 ≤ n
  hi : n ≤ 8
  al : Alt t
  pm : ∀ a b c, a < n → b < n → c < n → a ≠ b → a ≠ c → b ≠ c → t a b c = 1 ∨ t a b c = -1
  r4 : ∀ w a b c, w < n → a < n → b < n → c < n → w ≠ a → w ≠ b → w ≠ c → a ≠ b → a ≠ c → b ≠ c → ¬ Q4 t w a b c
  r5 : ∀ x a b c d, x < n → a < n → b < n → c < n → d < n → x ≠ a → x ≠ b → x ≠ c → x ≠ d → a ≠ b → a ≠ c → a ≠ d → b ≠ c → b ≠ d → c ≠ d → ¬ brk5 t x a b c d
/-- a cyclic turn -/
theorem Alt.cyc {t : Tn} (h : Alt t) {a b c : Nat} (hab : a ≠ b) (hac : a ≠ c) (hbc : b ≠ c) : t b c a = t a b c := by
  have := h.s1 a b c hab hac hbc
  have := h.s2 b a c (Ne.symm hab) hbc hac
  omega
theorem Alt.cyc2 {t : Tn} (h : Alt t) {a b c : Nat} (hab : a ≠ b) (hac : a ≠ c) (hbc : b ≠ c) : t c a b = t a b c := by
  have := h.s2 a b c hab hac hbc
  have := h.s1 a c b hac hab (Ne.symm hbc)
  omega
theorem Alt.rv {t : Tn} (h : Alt t) {a b c : Nat} (hab : a ≠ b) (hac : a ≠ c) (hbc : b ≠ c) : t c b a = - t a b c := by
  have := h.cyc hab hac hbc
  have := h.s1 b c a hbc (Ne.symm hab) (Ne.symm hac)
  omega
/-- the turns in order tell all -/
theorem Alt.tn_eq {t : Tn} (h : Alt t) {a b c : Nat} (hab : a ≠ b) (hac : a ≠ c) (hbc : b ≠ c) : tn t a b c = t a b c := by
  unfold tn
  split <;> split <;> try split
  · rfl
  · have := h.s2 a b c hab hac hbc; omega
  · exact h.cyc2 hab hac hbc
  · have := h.s1 a b c hab hac hbc; omega
  · exact h.cyc hab hac hbc
  · have := h.rv hab hac hbc; omega
theorem pt_alt (l : List Pt) : Alt (ptT l) := ⟨fun a b c _ _ _ => ptT_swap l a b c, fun a b c _ _ _ => ptT_swap2 l a b c⟩
theorem GP.tb {l : List Pt} (g : GP l) (h3 : 3 ≤ l.length) (h8 : l.length ≤ 8) : Tb l.length (ptT l) where
  lo := h3
  hi := h8
  al := pt_alt l
  pm := fun a b c ha hb hc => g.turn ha hb hc
  r4 := fun w a b c hw ha hb hc h1 h2 h3 h4 h5 h6 q => by
    have e := crs4 (gp l w) (gp l a) (gp l b) (gp l c)
    have k1 := g.all hw ha hb h1 h2 h4
    unfold Q4 ptT at q
    rcases sgn_cases (crs (gp l w) (gp l a) (gp l b)) with h | h | h <;> rcases sgn_cases (crs (gp l w) (gp l a) (gp l c)) with i | i | i <;> rcases sgn_cases (crs (gp l w) (gp l b) (gp l c)) with j | j | j <;> rcases sgn_cases (crs (gp l a) (gp l b) (gp l c)) with k | k | k <;> omega
  r5 := fun x a b c d _ _ _ _ _ _ _ _ _ _ _ _ _ _ _ => pt_r5

/-! ### swaps in the rules -/
section
variable {t : Tn} (h : Alt t)
include h
theorem q4_12 {w a b c : Nat} (h1 : w ≠ a) (h2 : w ≠ b) (h3 : w ≠ c) (h4 : a ≠ b) (h5 : a ≠ c) (h6 : b ≠ c) (q : Q4 t w a b c) : Q4 t a w b c := by
  have := h.s1 w a b h1 h2 h4
  have := h.s1 w a c h1 h3 h5
  unfold Q4 at *
  omega
theorem q4_23 {w a b c : Nat} (h1 : w ≠ a) (h2 : w ≠ b) (h3 : w ≠ c) (h4 : a ≠ b) (h5 : a ≠ c) (h6 : b ≠ c) (q : Q4 t w a b c) : Q4 t w b a c := by
  have := h.s2 w a b h1 h2 h4
  have := h.s1 a b c h4 h5 h6
  unfold Q4 at *
  omega
theorem q4_34 {w a b c : Nat} (h1 : w ≠ a) (h2 : w ≠ b) (h3 : w ≠ c) (h4 : a ≠ b) (h5 : a ≠ c) (h6 : b ≠ c) (q : Q4 t w a b c) : Q4 t w a c b := by
  have := h.s2 w b c h2 h3 h6
  have := h.s2 a b c h4 h5 h6
  unfold Q4 at *
  omega
/-- d in front of the others -/
theorem q4_front {w a b c d : Nat} (h1 : w ≠ a) (h2 : w ≠ b) (h3 : w ≠ c) (h4 : a ≠ b) (h5 : a ≠ c) (h6 : b ≠ c) (q : Q4 t w a b c) (hd : d = w ∨ d = a ∨ d = b ∨ d = c) : ∃ x y z, Q4 t d x y z ∧ (∀ u, (u = w ∨ u = a ∨ u = b ∨ u = c) ↔ (u = d ∨ u = x ∨ u = y ∨ u = z)) ∧ d ≠ x ∧ d ≠ y ∧ d ≠ z ∧ x ≠ y ∧ x ≠ z ∧ y ≠ z := by
  rcases hd with rfl | rfl | rfl | rfl
  · exact ⟨a, b, c, q, by intro u; grind, by omega⟩
  · exact ⟨w, b, c, q4_12 h h1 h2 h3 h4 h5 h6 q, by intro u; grind, by omega⟩
  · exact ⟨w, a, c, q4_12 h (by omega) (by omega) (by omega) (by omega) (by omega) (by omega) (q4_23 h h1 h2 h3 h4 h5 h6 q), by intro u; grind, by omega⟩
  · exact ⟨w, a, b, q4_12 h (by omega) (by omega) (by omega) (by omega) (by omega) (by omega) (q4_23 h (by omega) (by omega) (by omega) (by omega) (by omega) (by omega) (q4_34 h h1 h2 h3 h4 h5 h6 q)), by intro u; grind, by omega⟩
theorem q4_second {w a b c d : Nat} (h1 : w ≠ a) (h2 : w ≠ b) (h3 : w ≠ c) (h4 : a ≠ b) (h5 : a ≠ c) (h6 : b ≠ c) (q : Q4 t w a b c) (hd : d = a ∨ d = b ∨ d = c) : ∃ y z, Q4 t w d y z ∧ (∀ u, (u = a ∨ u = b ∨ u = c) ↔ (u = d ∨ u = y ∨ u = z)) ∧ w ≠ d ∧ w ≠ y ∧ w ≠ z ∧ d ≠ y ∧ d ≠ z ∧ y ≠ z := by
  rcases hd with rfl | rfl | rfl
  · exact ⟨b, c, q, by intro u; grind, by omega⟩
  · exact ⟨a, c, q4_23 h h1 h2 h3 h4 h5 h6 q, by intro u; grind, by omega⟩
  · exact ⟨a, b, q4_23 h (by omega) (by omega) (by omega) (by omega) (by omega) (by omega) (q4_34 h h1 h2 h3 h4 h5 h6 q), by intro u; grind, by omega⟩
/-- three of the four in front, in any order -/
theorem q4_three {w a b c x y z : Nat} (h1 : w ≠ a) (h2 : w ≠ b) (h3 : w ≠ c) (h4 : a ≠ b) (h5 : a ≠ c) (h6 : b ≠ c) (q : Q4 t w a b c) (hx : x = w ∨ x = a ∨ x = b ∨ x = c) (hy : y = w ∨ y = a ∨ y = b ∨ y = c) (hz : z = w ∨ z = a ∨ z = b ∨ z = c) (hxy : x ≠ y) (hxz : x ≠ z) (hyz : y ≠ z) :
    ∃ d, Q4 t x y z d ∧ (d = w ∨ d = a ∨ d = b ∨ d = c) ∧ d ≠ x ∧ d ≠ y ∧ d ≠ z := by
  obtain ⟨p, q', r, q1, e1, k1, k2, k3, k4, k5, k6⟩ := q4_front h h1 h2 h3 h4 h5 h6 q hx
  have hy' := (e1 y).mp hy
  have hz' := (e1 z).mp hz
  obtain ⟨u, v, q2, e2, m1, m2, m3, m4, m5, m6⟩ := q4_second h k1 k2 k3 k4 k5 k6 q1 (d := y) (by omega)
  have hz2 := (e2 z).mp (by omega)
  rcases hz2 with rfl | rfl | rfl
  · omega
  · refine ⟨v, q2, ?_, by omega, by omega, by omega⟩
    have := (e2 v).mpr (by omega)
    exact (e1 v).mpr (by omega)
  · refine ⟨u, q4_34 h m1 m2 m3 m4 m5 m6 q2, ?_, by omega, by omega, by omega⟩
    have := (e2 u).mpr (by omega)
    exact (e1 u).mpr (by omega)
theorem b5_12 {x a b c d : Nat} (h1 : x ≠ a) (h2 : x ≠ b) (h5 : a ≠ b) (q : brk5 t x a b c d) : brk5 t x b a c d := by
  have e := h.s2 x a b h1 h2 h5
  obtain ⟨q1, q2, q3⟩ := q
  unfold brk5
  refine ⟨?_, ?_, ?_⟩ <;> grind
theorem b5_23 {x a b c d : Nat} (h1 : x ≠ b) (h2 : x ≠ c) (h5 : b ≠ c) (q : brk5 t x a b c d) : brk5 t x a c b d := by
  have e := h.s2 x b c h1 h2 h5
  obtain ⟨q1, q2, q3⟩ := q
  unfold brk5
  refine ⟨?_, ?_, ?_⟩ <;> grind
theorem b5_34 {x a b c d : Nat} (h1 : x ≠ c) (h2 : x ≠ d) (h5 : c ≠ d) (q : brk5 t x a b c d) : brk5 t x a b d c := by
  have e := h.s2 x c d h1 h2 h5
  obtain ⟨q1, q2, q3⟩ := q
  unfold brk5
  refine ⟨?_, ?_, ?_⟩ <;> grind
theorem b5_front {x a b c d y : Nat} (h1 : x ≠ a) (h2 : x ≠ b) (h3 : x ≠ c) (h4 : x ≠ d) (h5 : a ≠ b) (h6 : a ≠ c) (h7 : a ≠ d) (h8 : b ≠ c) (h9 : b ≠ d) (h10 : c ≠ d) (q : brk5 t x a b c d) (hy : y = a ∨ y = b ∨ y = c ∨ y = d) :
    ∃ p r s, brk5 t x y p r s ∧ (∀ u, (u = a ∨ u = b ∨ u = c ∨ u = d) ↔ (u = y ∨ u = p ∨ u = r ∨ u = s)) ∧ y ≠ p ∧ y ≠ r ∧ y ≠ s ∧ p ≠ r ∧ p ≠ s ∧ r ≠ s := by
  rcases hy with rfl | rfl | rfl | rfl
  · exact ⟨b, c, d, q, by intro u; grind, by omega⟩
  · exact ⟨a, c, d, b5_12 h h1 h2 h5 q, by intro u; grind, by omega⟩
  · exact ⟨a, b, d, b5_12 h h1 h3 h6 (b5_23 h h2 h3 h8 q), by intro u; grind, by omega⟩
  · exact ⟨a, b, c, b5_12 h h1 h4 h7 (b5_23 h h2 h4 h9 (b5_34 h h3 h4 h10 q)), by intro u; grind, by omega⟩
theorem b5_second {x a b c d y : Nat} (h2 : x ≠ b) (h3 : x ≠ c) (h4 : x ≠ d) (h5 : a ≠ b) (h6 : a ≠ c) (h7 : a ≠ d) (h8 : b ≠ c) (h9 : b ≠ d) (h10 : c ≠ d) (q : brk5 t x a b c d) (hy : y = b ∨ y = c ∨ y = d) :
    ∃ r s, brk5 t x a y r s ∧ (∀ u, (u = b ∨ u = c ∨ u = d) ↔ (u = y ∨ u = r ∨ u = s)) ∧ a ≠ y ∧ a ≠ r ∧ a ≠ s ∧ y ≠ r ∧ y ≠ s ∧ r ≠ s := by
  rcases hy with rfl | rfl | rfl
  · exact ⟨c, d, q, by intro u; grind, by omega⟩
  · exact ⟨b, d, b5_23 h h2 h3 h8 q, by intro u; grind, by omega⟩
  · exact ⟨b, c, b5_23 h h2 h4 h9 (b5_34 h h3 h4 h10 q), by intro u; grind, by omega⟩
/-- two of the four in front -/
theorem b5_two {x a b c d y z : Nat} (h1 : x ≠ a) (h2 : x ≠ b) (h3 : x ≠ c) (h4 : x ≠ d) (h5 : a ≠ b) (h6 : a ≠ c) (h7 : a ≠ d) (h8 : b ≠ c) (h9 : b ≠ d) (h10 : c ≠ d) (q : brk5 t x a b c d) (hy : y = a ∨ y = b ∨ y = c ∨ y = d) (hz : z = a ∨ z = b ∨ z = c ∨ z = d) (hyz : y ≠ z) :
    ∃ r s, brk5 t x y z r s ∧ (r = a ∨ r = b ∨ r = c ∨ r = d) ∧ (s = a ∨ s = b ∨ s = c ∨ s = d) ∧ r ≠ y ∧ r ≠ z ∧ s ≠ y ∧ s ≠ z ∧ r ≠ s := by
  obtain ⟨p, r, s, q1, e1, k1, k2, k3, k4, k5, k6⟩ := b5_front h h1 h2 h3 h4 h5 h6 h7 h8 h9 h10 q hy
  have hz' := (e1 z).mp hz
  have x1 : x ≠ p := fun e => by have := (e1 p).mpr (by grind); grind
  have x2 : x ≠ r := fun e => by have := (e1 r).mpr (by grind); grind
  have x3 : x ≠ s := fun e => by have := (e1 s).mpr (by grind); grind
  obtain ⟨u, v, q2, e2, m1, m2, m3, m4, m5, m6⟩ := b5_second h x1 x2 x3 k1 k2 k3 k4 k5 k6 q1 (y := z) (by grind)
  refine ⟨u, v, q2, (e1 u).mpr ?_, (e1 v).mpr ?_, by grind, by grind, by grind, by grind, by grind⟩
  · have := (e2 u).mpr (by grind); grind
  · have := (e2 v).mpr (by grind); grind
end

/-! ### a passing -/
def rev (t : Tn) (a b c : Nat) : Tn := fun x y z => if (a = x ∨ a = y ∨ a = z) ∧ (b = x ∨ b = y ∨ b = z) ∧ (c = x ∨ c = y ∨ c = z) then - t x y z else t x y z
theorem rev_no {t : Tn} {a b c x y z : Nat} (h : ¬((a = x ∨ a = y ∨ a = z) ∧ (b = x ∨ b = y ∨ b = z) ∧ (c = x ∨ c = y ∨ c = z))) : rev t a b c x y z = t x y z := if_neg h
theorem rev_yes {t : Tn} {a b c x y z : Nat} (h : (a = x ∨ a = y ∨ a = z) ∧ (b = x ∨ b = y ∨ b = z) ∧ (c = x ∨ c = y ∨ c = z)) : rev t a b c x y z = - t x y z := if_pos h
/-- d sees b between a and c -/
def Sees (t : Tn) (d a b c : Nat) : Prop := t d a b = t d b c ∧ t d a b = t d a c
def Can (t : Tn) (n a b c : Nat) : Prop := ∀ d, d < n → d ≠ a → d ≠ b → d ≠ c → Sees t d a b c
theorem rev_alt {t : Tn} (h : Alt t) (a b c : Nat) : Alt (rev t a b c) := by
  refine ⟨fun x y z h1 h2 h3 => ?_, fun x y z h1 h2 h3 => ?_⟩
  · have := h.s1 x y z h1 h2 h3
    by_cases k : (a = x ∨ a = y ∨ a = z) ∧ (b = x ∨ b = y ∨ b = z) ∧ (c = x ∨ c = y ∨ c = z)
    · rw [rev_yes k, rev_yes (by omega)]; omega
    · rw [rev_no k, rev_no (by grind)]; omega
  · have := h.s2 x y z h1 h2 h3
    by_cases k : (a = x ∨ a = y ∨ a = z) ∧ (b = x ∨ b = y ∨ b = z) ∧ (c = x ∨ c = y ∨ c = z)
    · rw [rev_yes k, rev_yes (by omega)]; omega
    · rw [rev_no k, rev_no (by grind)]; omega
theorem tri {a b c x u v : Nat} (hab : a ≠ b) (hac : a ≠ c) (hbc : b ≠ c) (ha : a = x ∨ a = u ∨ a = v) (hb : b = x ∨ b = u ∨ b = v) (hc : c = x ∨ c = u ∨ c = v) : x = a ∨ x = b ∨ x = c := by omega
theorem mem5 {a x u v p q r s : Nat} (hu : u = p ∨ u = q ∨ u = r ∨ u = s) (hv : v = p ∨ v = q ∨ v = r ∨ v = s) (ha : a = x ∨ a = u ∨ a = v) : a = x ∨ a = p ∨ a = q ∨ a = r ∨ a = s := by
  rcases ha with rfl | rfl | rfl
  · exact .inl rfl
  · exact .inr hu
  · exact .inr hv
theorem ne4 {x p q r s d : Nat} (h1 : x ≠ p) (h2 : x ≠ q) (h3 : x ≠ r) (h4 : x ≠ s) (hd : d = p ∨ d = q ∨ d = r ∨ d = s) : x ≠ d := by
  rcases hd with rfl | rfl | rfl | rfl <;> assumption
theorem rev_x {t : Tn} {a b c x y d : Nat} (h1 : d ≠ a) (h2 : d ≠ b) (h3 : d ≠ c) (hab : a ≠ b) (hac : a ≠ c) (hbc : b ≠ c) : Mir.rev t a b c x y d = t x y d := rev_no (by omega)
section
variable {t : Tn} (al : Alt t) {a b c d e : Nat} (hab : a ≠ b) (hac : a ≠ c) (hbc : b ≠ c) (d1 : d ≠ a) (d2 : d ≠ b) (d3 : d ≠ c) (e1 : e ≠ a) (e2 : e ≠ b) (e3 : e ≠ c) (s1 : Sees t d a b c) (s2 : Sees t e a b c) (p1 : t d a b = 1 ∨ t d a b = -1) (p2 : t e a b = 1 ∨ t e a b = -1)
include al hab hac hbc d1 d2 d3 e1 e2 e3 s1 s2 p1 p2
theorem rev5_a (B : brk5 (Mir.rev t a b c) a b c d e) : False := by
  obtain ⟨_, B, _⟩ := B
  rw [rev_x d1 d2 d3 hab hac hbc, rev_x e1 e2 e3 hab hac hbc, rev_x e1 e2 e3 hab hac hbc, rev_x d1 d2 d3 hab hac hbc] at B
  rw [al.cyc d1 d2 hab, al.cyc e1 e2 hab, al.cyc d1 d3 hac, al.cyc e1 e3 hac, ← s1.2, ← s2.2] at B
  rcases p1 with b1 | b1 <;> rcases p2 with b2 | b2 <;> rw [b1, b2] at B <;> omega
theorem rev5_b (B : brk5 (Mir.rev t a b c) b a c d e) : False := by
  obtain ⟨_, B, _⟩ := B
  rw [rev_x d1 d2 d3 hab hac hbc, rev_x e1 e2 e3 hab hac hbc, rev_x e1 e2 e3 hab hac hbc, rev_x d1 d2 d3 hab hac hbc] at B
  rw [al.rv d1 d2 hab, al.rv e1 e2 hab, al.cyc d2 d3 hbc, al.cyc e2 e3 hbc, ← s1.1, ← s2.1] at B
  rcases p1 with b1 | b1 <;> rcases p2 with b2 | b2 <;> rw [b1, b2] at B <;> omega
theorem rev5_c (B : brk5 (Mir.rev t a b c) c a b d e) : False := by
  obtain ⟨_, B, _⟩ := B
  rw [rev_x d1 d2 d3 hab hac hbc, rev_x e1 e2 e3 hab hac hbc, rev_x e1 e2 e3 hab hac hbc, rev_x d1 d2 d3 hab hac hbc] at B
  rw [al.rv d1 d3 hac, al.rv e1 e3 hac, al.rv d2 d3 hbc, al.rv e2 e3 hbc, ← s1.1, ← s1.2, ← s2.1, ← s2.2] at B
  rcases p1 with b1 | b1 <;> rcases p2 with b2 | b2 <;> rw [b1, b2] at B <;> omega
end
theorem rev4 {t : Tn} (al : Alt t) {a b c d : Nat} (hab : a ≠ b) (hac : a ≠ c) (hbc : b ≠ c) (d1 : d ≠ a) (d2 : d ≠ b) (d3 : d ≠ c) (s1 : Sees t d a b c) (p1 : t d a b = 1 ∨ t d a b = -1) (Q : Q4 (Mir.rev t a b c) a b c d) : False := by
  unfold Q4 at Q
  rw [rev_x d1 d2 d3 hab hac hbc, rev_x d1 d2 d3 hab hac hbc, rev_x d1 d2 d3 hab hac hbc, al.cyc d1 d2 hab, al.cyc d1 d3 hac, al.cyc d2 d3 hbc, ← s1.1, ← s1.2] at Q
  omega
theorem Tb.rev {n : Nat} {t : Tn} (T : Tb n t) {a b c : Nat} (ha : a < n) (hb : b < n) (hc : c < n) (hab : a ≠ b) (hac : a ≠ c) (hbc : b ≠ c) (can : Can t n a b c) : Tb n (rev t a b c) := by
  have al' := rev_alt T.al a b c
  have pm' : ∀ x y z, x < n → y < n → z < n → x ≠ y → x ≠ z → y ≠ z → Mir.rev t a b c x y z = 1 ∨ Mir.rev t a b c x y z = -1 := fun x y z h1 h2 h3 h4 h5 h6 => by
    have q := T.pm x y z h1 h2 h3 h4 h5 h6
    by_cases k : (a = x ∨ a = y ∨ a = z) ∧ (b = x ∨ b = y ∨ b = z) ∧ (c = x ∨ c = y ∨ c = z)
    · rw [rev_yes k]; clear h4 h5 h6 hab hac hbc k; omega
    · rw [rev_no k]; exact q
  refine ⟨T.lo, T.hi, al', pm', ?_, ?_⟩
  · intro w p q r hw hp hq hr h1 h2 h3 h4 h5 h6 Q
    by_cases k : (a = w ∨ a = p ∨ a = q ∨ a = r) ∧ (b = w ∨ b = p ∨ b = q ∨ b = r) ∧ (c = w ∨ c = p ∨ c = q ∨ c = r)
    · obtain ⟨d, Q', hd, d1, d2, d3⟩ := q4_three al' h1 h2 h3 h4 h5 h6 Q k.1 k.2.1 k.2.2 hab hac hbc
      have hdn : d < n := by rcases hd with rfl | rfl | rfl | rfl <;> assumption
      exact rev4 T.al hab hac hbc d1 d2 d3 (can d hdn d1 d2 d3) (T.pm d a b hdn ha hb d1 d2 hab) Q'
    · refine T.r4 w p q r hw hp hq hr h1 h2 h3 h4 h5 h6 ?_
      have no : ∀ x y z, (x = w ∨ x = p ∨ x = q ∨ x = r) → (y = w ∨ y = p ∨ y = q ∨ y = r) → (z = w ∨ z = p ∨ z = q ∨ z = r) → Mir.rev t a b c x y z = t x y z := fun x y z hx hy hz => rev_no fun k' => k ⟨by rcases k'.1 with h | h | h <;> (rw [h]; assumption), by rcases k'.2.1 with h | h | h <;> (rw [h]; assumption), by rcases k'.2.2 with h | h | h <;> (rw [h]; assumption)⟩
      unfold Q4 at Q ⊢
      rw [no w p q (by simp) (by simp) (by simp), no w p r (by simp) (by simp) (by simp), no w q r (by simp) (by simp) (by simp), no p q r (by simp) (by simp) (by simp)] at Q
      exact Q
  · intro x p q r s hx hp hq hr hs h1 h2 h3 h4 h5 h6 h7 h8 h9 h10 B
    by_cases k : (x = a ∨ x = b ∨ x = c) ∧ (a = x ∨ a = p ∨ a = q ∨ a = r ∨ a = s) ∧ (b = x ∨ b = p ∨ b = q ∨ b = r ∨ b = s) ∧ (c = x ∨ c = p ∨ c = q ∨ c = r ∨ c = s)
    · obtain ⟨k0, ka, kb, kc⟩ := k
      have lt : ∀ d, d = p ∨ d = q ∨ d = r ∨ d = s → d < n := fun d hd => by rcases hd with rfl | rfl | rfl | rfl <;> assumption
      have nx : ∀ d, d = p ∨ d = q ∨ d = r ∨ d = s → d ≠ x := fun d hd => (ne4 h1 h2 h3 h4 hd).symm
      rcases k0 with rfl | rfl | rfl
      · obtain ⟨d, e, B', hd, he, d1, d2, e1, e2, de⟩ := b5_two al' h1 h2 h3 h4 h5 h6 h7 h8 h9 h10 B (y := b) (z := c) (kb.resolve_left hab.symm) (kc.resolve_left hac.symm) hbc
        exact rev5_a T.al hab hac hbc (nx d hd) d1 d2 (nx e he) e1 e2 (can d (lt d hd) (nx d hd) d1 d2) (can e (lt e he) (nx e he) e1 e2) (T.pm d x b (lt d hd) ha hb (nx d hd) d1 hab) (T.pm e x b (lt e he) ha hb (nx e he) e1 hab) B'
      · obtain ⟨d, e, B', hd, he, d1, d2, e1, e2, de⟩ := b5_two al' h1 h2 h3 h4 h5 h6 h7 h8 h9 h10 B (y := a) (z := c) (ka.resolve_left hab) (kc.resolve_left hbc.symm) hac
        exact rev5_b T.al hab hac hbc d1 (nx d hd) d2 e1 (nx e he) e2 (can d (lt d hd) d1 (nx d hd) d2) (can e (lt e he) e1 (nx e he) e2) (T.pm d a x (lt d hd) ha hb d1 (nx d hd) hab) (T.pm e a x (lt e he) ha hb e1 (nx e he) hab) B'
      · obtain ⟨d, e, B', hd, he, d1, d2, e1, e2, de⟩ := b5_two al' h1 h2 h3 h4 h5 h6 h7 h8 h9 h10 B (y := a) (z := b) (ka.resolve_left hac) (kb.resolve_left hbc) hab
        exact rev5_c T.al hab hac hbc d1 d2 (nx d hd) e1 e2 (nx e he) (can d (lt d hd) d1 d2 (nx d hd)) (can e (lt e he) e1 e2 (nx e he)) (T.pm d a b (lt d hd) ha hb d1 d2 hab) (T.pm e a b (lt e he) ha hb e1 e2 hab) B'
    · refine T.r5 x p q r s hx hp hq hr hs h1 h2 h3 h4 h5 h6 h7 h8 h9 h10 ?_
      have no : ∀ u v, (u = p ∨ u = q ∨ u = r ∨ u = s) → (v = p ∨ v = q ∨ v = r ∨ v = s) → Mir.rev t a b c x u v = t x u v := fun u v hu hv => rev_no fun k' => k ⟨tri hab hac hbc k'.1 k'.2.1 k'.2.2, mem5 hu hv k'.1, mem5 hu hv k'.2.1, mem5 hu hv k'.2.2⟩
      unfold brk5 at B ⊢
      rw [no p q (by simp) (by simp), no r s (by simp) (by simp), no p r (by simp) (by simp), no q s (by simp) (by simp), no p s (by simp) (by simp), no q r (by simp) (by simp)] at B
      exact B
/-! ### mirror image, new names -/
theorem q4_neg {t : Tn} {w a b c : Nat} (q : Q4 (fun a b c => - t a b c) w a b c) : Q4 t w a b c := by
  unfold Q4 at *
  dsimp only at q
  omega
theorem Tb.neg {n : Nat} {t : Tn} (T : Tb n t) : Tb n (fun a b c => - t a b c) where
  lo := T.lo
  hi := T.hi
  al := ⟨fun a b c h1 h2 h3 => by have := T.al.s1 a b c h1 h2 h3; omega, fun a b c h1 h2 h3 => by have := T.al.s2 a b c h1 h2 h3; omega⟩
  pm := fun a b c h1 h2 h3 h4 h5 h6 => by have := T.pm a b c h1 h2 h3 h4 h5 h6; omega
  r4 := fun w a b c h1 h2 h3 h4 h5 h6 h7 h8 h9 h10 q => T.r4 w a b c h1 h2 h3 h4 h5 h6 h7 h8 h9 h10 (q4_neg q)
  r5 := fun x a b c d h1 h2 h3 h4 h5 h6 h7 h8 h9 h10 h11 h12 h13 h14 h15 q => T.r5 x a b c d h1 h2 h3 h4 h5 h6 h7 h8 h9 h10 h11 h12 h13 h14 h15 (by unfold brk5 at *; simp only [Int.neg_mul, Int.mul_neg, Int.neg_neg] at *; exact q)
end Mir
namespace Mir
open PySem PySem.Spec L2

/-! ### tables of turns in all orders -/
theorem Tb.tab {n : Nat} {t : Tn} (T : Tb n t) : TabF n t := by
  have pm : ∀ a b c, a < b → b < c → c < n → t a b c = 1 ∨ t a b c = -1 := fun a b c h1 h2 h3 => T.pm a b c (by omega) (by omega) h3 (by omega) (by omega) (by omega)
  refine ⟨T.lo, T.hi, pm, brch_none (fun w a b c h1 h2 h3 h4 => ?_) fun x p q r s h1 h2 h3 h4 h5 h6 h7 h8 h9 => ?_⟩
  · have k := T.r4 w a b c (by omega) (by omega) (by omega) h4 (by omega) (by omega) (by omega) (by omega) (by omega) (by omega)
    unfold Q4 at k
    unfold b4 ltr
    rcases pm w a b (by omega) (by omega) (by omega) with e1 | e1 <;> rcases pm w a c (by omega) (by omega) (by omega) with e2 | e2 <;> rcases pm w b c (by omega) (by omega) (by omega) with e3 | e3 <;> rcases pm a b c (by omega) (by omega) (by omega) with e4 | e4 <;> simp [e1, e2, e3, e4] at k ⊢
  · have k := T.r5 x p q r s h5 (by omega) (by omega) (by omega) h4 h6 h7 h8 h9 (by omega) (by omega) (by omega) (by omega) (by omega) (by omega)
    cases hb : b5 (tn t) x p q r s with
    | false => rfl
    | true =>
      exfalso
      apply k
      have hb := b5_of.mp hb
      unfold brk5 at hb ⊢
      rw [T.al.tn_eq h6 h7 (by omega), T.al.tn_eq h8 h9 (by omega), T.al.tn_eq h6 h8 (by omega), T.al.tn_eq h7 h9 (by omega), T.al.tn_eq h6 h9 (by omega), T.al.tn_eq h7 h8 (by omega)] at hb
      exact hb
theorem Tb.ne0 {n : Nat} {t : Tn} (T : Tb n t) : ∀ a b c, a < b → b < c → c < n → t a b c ≠ 0 := fun a b c h1 h2 h3 => by have := T.tab.pm a b c h1 h2 h3; omega

/-! ### the keys of the turns -/
def trp (n : Nat) : List T3 := (List.range n).flatMap fun a => (List.range n).flatMap fun b => (List.range n).flatMap fun c => if a ≠ b ∧ a ≠ c ∧ b ≠ c then [(a, b, c)] else []
def tKV (f : Tn) (t : T3) : List Key × D := (key3 t.1 t.2.1 t.2.2, .int (f t.1 t.2.1 t.2.2))
theorem turnsK_map {n : Nat} {f : Tn} : turnsK n f = (trp n).map (tKV f) := by
  unfold turnsK tA tB tC trp
  rw [List.map_flatMap]
  congr 1
  funext a
  rw [List.map_flatMap]
  congr 1
  funext b
  rw [List.map_flatMap]
  congr 1
  funext c
  unfold tE
  split <;> rfl
theorem mem_trp {n : Nat} {t : T3} : t ∈ trp n ↔ t.1 < n ∧ t.2.1 < n ∧ t.2.2 < n ∧ t.1 ≠ t.2.1 ∧ t.1 ≠ t.2.2 ∧ t.2.1 ≠ t.2.2 := by
  obtain ⟨a, b, c⟩ := t
  unfold trp
  simp only [List.mem_flatMap, List.mem_range]
  constructor
  · rintro ⟨a', ha, b', hb, c', hc, h⟩
    split at h
    · rename_i k
      obtain ⟨rfl, rfl, rfl⟩ : a = a' ∧ b = b' ∧ c = c' := by simpa using h
      exact ⟨ha, hb, hc, k⟩
    · simp at h
  · rintro ⟨ha, hb, hc, k⟩
    exact ⟨a, ha, b, hb, c, hc, by rw [if_pos k]; simp⟩
theorem trp_nd_dec : ((List.range 9).all fun n => decide (trp n).Nodup) = true := by decide +kernel
theorem trp_nd {n : Nat} (h : n ≤ 8) : (trp n).Nodup := by
  have k := trp_nd_dec
  rw [List.all_eq_true] at k
  exact of_decide_eq_true (k n (List.mem_range.mpr (by omega)))
theorem trp_len {n : Nat} (h : n ≤ 8) : (trp n).length ≤ 512 := by
  have := len_tA (n := n) (f := fun _ _ _ => 0) (a := n) h h
  have e := congrArg List.length (turnsK_map (n := n) (f := fun _ _ _ => 0))
  rw [List.length_map] at e
  unfold turnsK at e
  omega
theorem keys_turns {n : Nat} {f : Tn} : keysM (.dct (turnsK n f)) = .ok ((trp n).map t3D) := by
  show M.ok ((turnsK n f).map fun q => D.tup (q.1.map keyD)) = _
  rw [turnsK_map, List.map_map]
  rfl
/-- a loop with the pieces met so far -/
theorem loopP {α X S : Type} {f : D → S → Ctl X S} (h : α → D) (g : List α → S) : ∀ {xs pre : List α}, (∀ p x q, pre ++ xs = p ++ x :: q → f (h x) (g p) = .nx (g (p ++ [x]))) → forC f (xs.map h) (g pre) = .nx (g (pre ++ xs))
  | [], pre, _ => by rw [List.append_nil]; rfl
  | x :: xs, pre, k => by
    show (f (h x) (g pre)).bind (forC f (xs.map h)) = _
    rw [k pre x xs rfl, show pre ++ x :: xs = (pre ++ [x]) ++ xs by simp]
    exact loopP h g fun p y q e => k p y q (by rw [← e]; simp)
theorem loopP0 {α X S : Type} {f : D → S → Ctl X S} (h : α → D) (g : List α → S) {xs : List α} (k : ∀ p x q, xs = p ++ x :: q → f (h x) (g p) = .nx (g (p ++ [x]))) : forC f (xs.map h) (g []) = .nx (g xs) := loopP h g (pre := []) fun p x q e => k p x q e

/-! ### may it pass? -/
def canB (t : Tn) (n a b c : Nat) : Bool := !(List.range n).any fun d => decide (d ≠ a ∧ d ≠ b ∧ d ≠ c) && (decide (t d a b ≠ t d b c) || decide (t d a b ≠ t d a c))
theorem canB_iff {t : Tn} {n a b c : Nat} : canB t n a b c = true ↔ Can t n a b c := by
  unfold canB Can Sees
  simp only [Bool.not_eq_true', List.any_eq_false, List.mem_range, Bool.and_eq_true, Bool.or_eq_true, decide_eq_true_eq, not_and, not_or, Decidable.not_not]
  constructor
  · intro h d hd h1 h2 h3; exact h d hd ⟨h1, h2, h3⟩
  · intro h d hd k; exact h d hd k.1 k.2.1 k.2.2
theorem ne_nat {a b : Nat} : pyNe (.int a) (.int b) = .ok (.bl (decide (a ≠ b))) := by
  rw [ne_ii]
  congr 2
  by_cases h : a = b
  · simp [h]
  · have : ¬((a : Int) = b) := by omega
    simp [h, this]
theorem eq_nat {a b : Nat} : pyEq (.int a) (.int b) = .ok (.bl (decide (a = b))) := by
  rw [eq_ii]
  congr 2
  rw [decide_eq_decide]
  omega
theorem range_n {n : Nat} (h : n < 1000000) : b1 pyRange1 (mlist [.ok (.int n)]) = .ok (rangeD 0 n) := by rw [mlist_cons, mlist_nil, bind_ok, b1_ok, range_i (by omega), Int.toNat_natCast]
theorem range_n' {n : Nat} (h : n < 1000000) : pyRange1 [.int n] = .ok (rangeD 0 n) := by rw [range_i (by omega), Int.toNat_natCast]
theorem can_ok {n a b c : Nat} {t : Tn} (hn : n ≤ 8) (ha : a < n) (hb : b < n) (hc : c < n) (hab : a ≠ b) (hac : a ≠ c) (hbc : b ≠ c) : m_l_can_pass [.dct (turnsK n t), .int n, .int a, .int b, .int c] = .ok (.bl (canB t n a b c)) := by
  show (c_l_can_pass (.dct (turnsK n t)) (.int n) (.int a) (.int b) (.int c)).toM = _
  unfold c_l_can_pass
  rw [range_n (by omega), bindC_ok, loopR_any (r := .bl false) (fun d => decide (d ≠ a ∧ d ≠ b ∧ d ≠ c) && (decide (t d a b ≠ t d b c) || decide (t d a b ≠ t d a c))) fun d hd => ?_]
  · unfold canB
    cases (List.range n).any fun d => decide (d ≠ a ∧ d ≠ b ∧ d ≠ c) && (decide (t d a b ≠ t d b c) || decide (t d a b ≠ t d a c)) <;> rfl
  · simp only [b2_ok, ne_nat, b1_ok, isB_bl, tup3]
    by_cases h1 : d = a
    · subst h1; simp
    by_cases h2 : d = b
    · subst h2; simp [h1]
    by_cases h3 : d = c
    · subst h3; simp [h1, h2]
    have e1 : pyIx (.dct (turnsK n t)) (.tup [.int d, .int a, .int b]) = .ok (.int (t d a b)) := ix_turns hd ha hb h1 h2 hab
    have e2 : pyIx (.dct (turnsK n t)) (.tup [.int d, .int b, .int c]) = .ok (.int (t d b c)) := ix_turns hd hb hc h2 h3 hbc
    have e3 : pyIx (.dct (turnsK n t)) (.tup [.int d, .int a, .int c]) = .ok (.int (t d a c)) := ix_turns hd ha hc h1 h3 hac
    rw [e1, e2, e3]
    simp only [b2_ok, ne_ii, b1_ok, isB_bl, h1, h2, h3, ne_eq, not_false_eq_true, decide_true, andM_ok, if_true, bindC_ok, orM_ok, and_self, Bool.true_and]
    by_cases k1 : t d a b = t d b c
    · rw [← k1]
      by_cases k2 : t d a b = t d a c
      · simp [k2]
      · simp [k2]
    · simp [k1]

/-! ### a passing -/
theorem mem_t3 {x : Nat} {t : T3} : b2 (memD false) (.ok (.int x)) (.ok (t3D t)) = .ok (.bl (decide (x = t.1 ∨ x = t.2.1 ∨ x = t.2.2))) := by
  rw [b2_ok]
  show M.ok (D.bl (((t.1 : Int) == (x : Int)) || (((t.2.1 : Int) == (x : Int)) || (((t.2.2 : Int) == (x : Int)) || false)))) = _
  congr 2
  rw [Bool.eq_iff_iff]
  simp only [Bool.or_eq_true, beq_iff_eq, Bool.or_false, decide_eq_true_eq]
  omega
theorem set_new {kvs : List (List Key × D)} {t : T3} {z : Int} (hl : kvs.length < 1000000) (h : ∀ kv ∈ kvs, kv.1 ≠ key3 t.1 t.2.1 t.2.2) : setM (.dct kvs) (.ok (.int z)) (.ok (t3D t)) = .ok (.dct (kvs ++ [(key3 t.1 t.2.1 t.2.2, .int z)])) := by
  have := set_turn (a := t.1) (b := t.2.1) (c := t.2.2) (z := z) hl h
  rw [tup_ok (by simp)] at this
  exact this
theorem put_last {κ : Type} [DecidableEq κ] {kvs : List (κ × D)} {k : κ} {u v : D} (h : ∀ kv ∈ kvs, kv.1 ≠ k) : putD (kvs ++ [(k, u)]) k v = kvs ++ [(k, v)] := by
  unfold putD
  rw [if_pos (by simp), List.map_append]
  congr 1
  · rw [List.map_congr_left (g := id)]
    · simp
    · intro kv hkv
      rw [if_neg (h kv hkv)]
      rfl
  · simp
theorem set_last {kvs : List (List Key × D)} {t : T3} {u : D} {z : Int} (hl : kvs.length < 100000) (h : ∀ kv ∈ kvs, kv.1 ≠ key3 t.1 t.2.1 t.2.2) : setM (.dct (kvs ++ [(key3 t.1 t.2.1 t.2.2, u)])) (.ok (.int z)) (.ok (t3D t)) = .ok (.dct (kvs ++ [(key3 t.1 t.2.1 t.2.2, .int z)])) := by
  show (ofOpt (keysOf [D.int t.1, D.int t.2.1, D.int t.2.2])).bind (fun k => if (kvs ++ [(key3 t.1 t.2.1 t.2.2, u)]).length < sizeLine then M.ok (D.dct (putD (kvs ++ [(key3 t.1 t.2.1 t.2.2, u)]) k (.int z))) else .stk) = _
  rw [tup_keys]
  show (if (kvs ++ [(key3 t.1 t.2.1 t.2.2, u)]).length < sizeLine then M.ok (D.dct (putD (kvs ++ [(key3 t.1 t.2.1 t.2.2, u)]) (key3 t.1 t.2.1 t.2.2) (.int z))) else .stk) = _
  rw [if_pos (sz_big (by simp; omega)), put_last h]
theorem ix_t3 {n : Nat} {f : Tn} {t : T3} (h : t ∈ trp n) : pyIx (.dct (turnsK n f)) (t3D t) = .ok (.int (f t.1 t.2.1 t.2.2)) := by
  obtain ⟨h1, h2, h3, h4, h5, h6⟩ := mem_trp.mp h
  exact ix_turns h1 h2 h3 h4 h5 h6
theorem turned_ok {n a b c : Nat} {t : Tn} (hn : n ≤ 8) : m_l_turned [.dct (turnsK n t), .int a, .int b, .int c] = .ok (.dct (turnsK n (rev t a b c))) := by
  show (c_l_turned (.dct (turnsK n t)) (.int a) (.int b) (.int c)).toM = _
  unfold c_l_turned
  rw [bindC_ok, keys_turns, bindC_ok]
  rw [show D.dct [] = (fun p : List T3 => D.dct (p.map (tKV (rev t a b c)))) [] from rfl, loopP0 t3D (fun p : List T3 => D.dct (p.map (tKV (rev t a b c)))) fun p x q e => ?_]
  · rw [turnsK_map]
    rfl
  · have hx : x ∈ trp n := by rw [e]; simp
    have nd := trp_nd hn
    rw [e, List.nodup_append] at nd
    have hl : (p.map (tKV (rev t a b c))).length < 100000 := by
      have := trp_len hn
      rw [e] at this
      simp only [List.length_append, List.length_cons] at this
      rw [List.length_map]
      omega
    have hne : ∀ kv ∈ p.map (tKV (rev t a b c)), kv.1 ≠ key3 x.1 x.2.1 x.2.2 := by
      intro kv hkv hk
      obtain ⟨y, hy, rfl⟩ := List.mem_map.mp hkv
      obtain ⟨h1, h2, h3⟩ := key3_inj.mp hk
      have : y = x := by
        obtain ⟨y1, y2, y3⟩ := y
        obtain ⟨x1, x2, x3⟩ := x
        simp only at h1 h2 h3
        subst h1 h2 h3
        rfl
      exact nd.2.2 y hy x (by simp) this
    rw [b2_ok, ix_t3 hx, set_new (by omega) hne, bindC_ok]
    simp only [mem_t3, b1_ok, isB_bl, andM_ok, neg_i]
    have ex : (p ++ [x]).map (tKV (rev t a b c)) = p.map (tKV (rev t a b c)) ++ [(key3 x.1 x.2.1 x.2.2, .int (rev t a b c x.1 x.2.1 x.2.2))] := by rw [List.map_append]; rfl
    rw [ex]
    by_cases h1 : a = x.1 ∨ a = x.2.1 ∨ a = x.2.2
    · by_cases h2 : b = x.1 ∨ b = x.2.1 ∨ b = x.2.2
      · by_cases h3 : c = x.1 ∨ c = x.2.1 ∨ c = x.2.2
        · rw [rev_yes ⟨h1, h2, h3⟩]
          simp only [h1, h2, h3, decide_true, if_true, bindC_ok]
          rw [set_last hl hne]
          rfl
        · rw [rev_no (fun k => h3 k.2.2)]
          simp only [h1, h2, h3, decide_true, decide_false, if_true, bindC_ok, Bool.false_eq_true, if_false]
          rfl
      · rw [rev_no (fun k => h2 k.2.1)]
        simp only [h1, h2, decide_true, decide_false, if_true, bindC_ok, Bool.false_eq_true, if_false]
        rfl
    · rw [rev_no (fun k => h1 k.1)]
      simp only [h1, decide_false, bindC_ok, Bool.false_eq_true, if_false]
      rfl

/-! ### the possible passings -/
def wE (t : Tn) (n a b c : Nat) : List T3 := if b ≠ a ∧ b ≠ c ∧ canB t n a b c = true then [(a, b, c)] else []
/-- c from a + 1 on -/
def wC (t : Tn) (n a b k : Nat) : List T3 := (List.range k).flatMap fun i => wE t n a b (a + 1 + i)
def wB (t : Tn) (n a b : Nat) : List T3 := (List.range b).flatMap fun b => wC t n a b (n - (a + 1))
def wA (t : Tn) (n a : Nat) : List T3 := (List.range a).flatMap fun a => wB t n a n
def waysL (t : Tn) (n : Nat) : List T3 := wA t n n
theorem mem_ways {t : Tn} {n : Nat} {x : T3} : x ∈ waysL t n ↔ x.1 < x.2.2 ∧ x.2.2 < n ∧ x.2.1 < n ∧ x.2.1 ≠ x.1 ∧ x.2.1 ≠ x.2.2 ∧ canB t n x.1 x.2.1 x.2.2 = true := by
  obtain ⟨a, b, c⟩ := x
  unfold waysL wA wB wC wE
  simp only [List.mem_flatMap, List.mem_range]
  constructor
  · rintro ⟨a', ha, b', hb, i, hi, h⟩
    split at h
    · rename_i k
      simp only [List.mem_singleton, Prod.mk.injEq] at h
      obtain ⟨rfl, rfl, rfl⟩ := h
      exact ⟨by omega, by omega, hb, k⟩
    · simp at h
  · rintro ⟨h1, h2, h3, h4, h5, h6⟩
    refine ⟨a, by omega, b, h3, c - (a + 1), by omega, ?_⟩
    rw [show a + 1 + (c - (a + 1)) = c by omega, if_pos ⟨h4, h5, h6⟩]
    simp
theorem len_wC {t : Tn} {n a b k : Nat} : (wC t n a b k).length ≤ k := by
  have := len_flat (g := fun i => wE t n a b (a + 1 + i)) (k := 1) (l := List.range k) fun x _ => by unfold wE; split <;> simp
  rw [List.length_range] at this
  unfold wC
  omega
theorem len_wB {t : Tn} {n a b : Nat} (hn : n ≤ 8) (hb : b ≤ 8) : (wB t n a b).length ≤ 64 := by
  have := len_flat (g := fun b => wC t n a b (n - (a + 1))) (k := 8) (l := List.range b) fun x _ => Nat.le_trans len_wC (by omega)
  rw [List.length_range] at this
  unfold wB
  omega
theorem len_wA {t : Tn} {n a : Nat} (hn : n ≤ 8) (ha : a ≤ 8) : (wA t n a).length ≤ 512 := by
  have := len_flat (g := fun a => wB t n a n) (k := 64) (l := List.range a) fun x _ => len_wB hn hn
  rw [List.length_range] at this
  unfold wA
  omega
def t3sD (l : List T3) : D := .lst (l.map t3D)
theorem app_t3s {l : List T3} {x : T3} (h : l.length < 100000) : appM (t3sD l) (.ok (t3D x)) = .ok (t3sD (l ++ [x])) := by
  unfold t3sD
  show (if (l.map t3D).length < sizeLine then M.ok (D.lst (l.map t3D ++ [t3D x])) else .stk) = _
  rw [if_pos (by rw [List.length_map]; exact sz_big (by omega)), List.map_append]
  rfl
theorem loopR2_st {X S : Type} {f : D → S → Ctl X S} {lo n : Nat} (g : Nat → S) (h : ∀ j : Nat, j < n → f (.int (lo + j : Nat)) (g j) = .nx (g (j + 1))) : forC f (rangeD lo n) (g 0) = .nx (g n) := by
  have := loop_st (f := f) (ds := rangeD lo n) g fun j d hj => by
    obtain ⟨hl, rfl⟩ := range_at hj
    have := h j hl
    rw [Int.natCast_add] at this
    exact this
  rw [range_len] at this
  exact this
theorem range2_i {a b : Int} (h : -(2 ^ 62) ≤ a ∧ a < 2 ^ 62 ∧ -(2 ^ 62) ≤ b ∧ b < 2 ^ 62) : pyRange2 [.int a, .int b] = .ok (rangeD a (b - a).toNat) := if_pos h
theorem ways_ok {n : Nat} {t : Tn} (hn : n ≤ 8) : m_l_ways [.dct (turnsK n t), .int n] = .ok (t3sD (waysL t n)) := by
  show (c_l_ways (.dct (turnsK n t)) (.int n)).toM = _
  unfold c_l_ways
  rw [show b1 mkLst (mlist []) = .ok (t3sD []) from rfl, bindC_ok, range_n (by omega), bindC_ok]
  rw [show t3sD [] = (fun a => t3sD (wA t n a)) 0 from rfl, loopR_st (fun a => t3sD (wA t n a)) fun a ha => ?_]
  · rfl
  · rw [bindC_ok]
    have h1 : t3sD (wA t n a) = (fun b => t3sD (wA t n a ++ wB t n a b)) 0 := by show _ = t3sD (wA t n a ++ []); rw [List.append_nil]
    rw [h1, loopR_st (fun b => t3sD (wA t n a ++ wB t n a b)) fun b hb => ?_]
    · rw [ctl_nx]
      unfold wA
      rw [flat_succ]
    · have hr : b1 pyRange2 (mlist [b2 pyAdd (.ok (.int a)) (.ok (.int 1)), .ok (.int n)]) = .ok (rangeD (a + 1 : Nat) (n - (a + 1))) := by
        rw [b2_ok, add_ii, mlist_cons, mlist_cons, mlist_nil, bind_ok, bind_ok, b1_ok]
        rw [range2_i (by omega)]
        congr 2
        omega
      rw [hr, bindC_ok]
      have h2 : t3sD (wA t n a ++ wB t n a b) = (fun i => t3sD (wA t n a ++ wB t n a b ++ wC t n a b i)) 0 := by show _ = t3sD (wA t n a ++ wB t n a b ++ []); rw [List.append_nil]
      rw [h2, loopR2_st (fun i => t3sD (wA t n a ++ wB t n a b ++ wC t n a b i)) fun i hi => ?_]
      · rw [ctl_nx]
        unfold wB
        rw [flat_succ, List.append_assoc]
      · rw [b2_ok, ne_nat, b1_ok, isB_bl, b2_ok, ne_nat, b1_ok, isB_bl]
        have e : wC t n a b (i + 1) = wC t n a b i ++ wE t n a b (a + 1 + i) := flat_succ _ _
        rw [e]
        unfold wE
        by_cases k1 : b = a
        · simp [k1]
        by_cases k2 : b = a + 1 + i
        · simp [k2]
        rw [mlist_cons, mlist_cons, mlist_cons, mlist_cons, mlist_cons, mlist_nil, bind_ok, bind_ok, bind_ok, bind_ok, bind_ok, b1_ok, can_ok hn ha hb (by omega) (by omega) (by omega) (by omega), b1_ok, truth_b]
        simp only [k1, k2, ne_eq, not_false_eq_true, decide_true, andM_ok, if_true, bindC_ok, true_and]
        cases canB t n a b (a + 1 + i) with
        | false => simp
        | true =>
          rw [if_pos rfl, b1_ok, tup_ok (by simp)]
          have := app_t3s (l := wA t n a ++ wB t n a b ++ wC t n a b i) (x := (a, b, a + 1 + i)) (by
            rw [List.length_append, List.length_append]
            have := len_wA (t := t) (n := n) (a := a) hn (by omega)
            have := len_wB (t := t) (n := n) (a := a) (b := b) hn (by omega)
            have := len_wC (t := t) (n := n) (a := a) (b := b) (k := i)
            omega)
          have e2 : t3D (a, b, a + 1 + i) = .tup [.int a, .int b, .int (a + 1 + i : Nat)] := rfl
          rw [e2] at this
          rw [this]
          simp
end Mir
namespace Mir
open PySem PySem.Spec L2

/-! ### how the laws begin -/
theorem posts_ok (l : List Int) : ∃ n : Nat, b2 pyAdd (.ok (.int 3)) (b2 pyMod (b2 pyAdd (b1 m_l_draw (mlist [.ok (intsD l), .ok (.int 0), .ok (.int 6)])) (.ok (.int 2))) (.ok (.int 6))) = .ok (.int n) ∧ 3 ≤ n ∧ n ≤ 8 := by
  have z0 : 0 ≤ drawn l 0 6 := drawn_nonneg (by decide)
  have y0 : drawn l 0 6 < 6 := drawn_lt (by decide)
  refine ⟨(3 + (drawn l 0 6 + 2) % 6).toNat, ?_, by omega, by omega⟩
  rw [mlist_cons, mlist_cons, mlist_cons, mlist_nil, bind_ok, bind_ok, bind_ok, b1_ok]
  rw [show m_l_draw [intsD l, .int 0, .int 6] = _ from draw_ok l 0 6 (by decide), b2_ok, add_ii, b2_ok, mod_ii (by decide), b2_ok, add_ii]
  congr 2
  omega
/-- a draw below many -/
theorem draw_n (l : List Int) (k many : Nat) (h : 0 < many) : ∃ d : Nat, m_l_draw [intsD l, .int k, .int many] = .ok (.int d) ∧ d < many := by
  have z0 : 0 ≤ drawn l k many := drawn_nonneg (by omega)
  have y0 : drawn l k many < many := drawn_lt (by omega)
  refine ⟨(drawn l k many).toNat, ?_, by omega⟩
  rw [draw_ok l k many (by omega)]
  congr 2
  omega
theorem start_ok (l : List Int) (at0 n : Nat) (h3 : 3 ≤ n) (h8 : n ≤ 8) : ∃ t, Tb n t ∧ b1 m_l_turns (mlist [b1 m_l_places (mlist [.ok (intsD l), .ok (.int at0), .ok (.int n)])]) = .ok (.dct (turnsK n t)) := by
  obtain ⟨ps, e1, len, g, hb⟩ := places_ok l at0 n h8
  refine ⟨ptT ps, by rw [← len]; exact g.tb (by omega) (by omega), ?_⟩
  rw [mlist_cons, mlist_cons, mlist_cons, mlist_nil, bind_ok, bind_ok, bind_ok, b1_ok, e1, mlist_cons, mlist_nil, bind_ok, b1_ok, turns_ok hb (by omega), len]
theorem word_ok {n : Nat} {t : Tn} (T : Tb n t) : b1 m_l_letters (mlist [.ok (.dct (turnsK n t)), .ok (.int n)]) = .ok (strD (lw n t)) := by
  rw [mlist_cons, mlist_cons, mlist_nil, bind_ok, bind_ok, b1_ok, letters_ok T.hi T.ne0]
theorem make_ok {n : Nat} {t : Tn} (T : Tb n t) : b1 (mkO 1 m_Table___init) (mlist [.ok (strD (lw n t))]) = .ok (tabD n t) := by
  rw [mlist_cons, mlist_nil, bind_ok, b1_ok, make_tab T.tab]

/-! ### == and < of tables -/
theorem isi_tab {n : Nat} {f : Tn} {tb : List (String × Bool)} : isiD tb [(1, true)] (tabD n f) = .ok (.bl true) := rfl
theorem eq_tab {n m : Nat} {f g : Tn} : cmpO 1 m_Table___eq (tabD n f) (tabD m g) = .ok (.bl (decide (n = m) && decide (lw n f = lw m g))) := by
  show m_Table___eq [tabD n f, tabD m g] = _
  show (c_Table___eq (tabD n f) (tabD m g)).toM = _
  unfold c_Table___eq
  rw [b1_ok, isi_tab, b1_ok, fld_posts, b1_ok, fld_posts, b2_ok, eq_nat, b1_ok, fld_letters, b1_ok, fld_letters, b2_ok, eq_strD]
  cases decide (n = m) <;> cases decide (lw n f = lw m g) <;> rfl
def ltW (n : Nat) (w : List Nat) (m : Nat) (v : List Nat) : Bool := PySem.W.dataLt (.tuple [.int n, .str ⟨w.toArray⟩]) (.tuple [.int m, .str ⟨v.toArray⟩])
theorem ltD_ok {n m : Nat} {w v : List Nat} : ltD (.tup [.int n, strD w]) (.tup [.int m, strD v]) = .ok (.bl (ltW n w m v)) := by
  show (if PySem.W.alike (.tuple [.int n, .str ⟨w.toArray⟩]) (.tuple [.int m, .str ⟨v.toArray⟩]) = true ∧ noneD (.tuple [.int n, .str ⟨w.toArray⟩]) = false ∧ PyData.depth (.tuple [.int n, .str ⟨w.toArray⟩]) ≤ 64 then M.ok (D.bl (ltW n w m v)) else .stk) = _
  exact if_pos ⟨rfl, rfl, by simp [PyData.depth, PyData.depthAll]⟩
theorem ltW_self {n : Nat} {w : List Nat} : ltW n w n w = false := PySem.W.dataLt_self _
theorem lt_tab {n m : Nat} {f g : Tn} : cmpO 1 m_Table___lt (tabD n f) (tabD m g) = .ok (.bl (ltW n (lw n f) m (lw m g))) := by
  show m_Table___lt [tabD n f, tabD m g] = _
  show (c_Table___lt (tabD n f) (tabD m g)).toM = _
  unfold c_Table___lt
  rw [b1_ok, isi_tab, b1_ok, truth_b, notM_ok, bindC_ok, if_neg (by decide), b1_ok, fld_posts, b1_ok, fld_letters, b1_ok, fld_posts, b1_ok, fld_letters, tup2, tup2, b2_ok, ltD_ok]
  rfl
/-- words of tables tell the number of posts -/
theorem lw_n {n m : Nat} {f g : Tn} (T : Tb n f) (U : Tb m g) (h : lw n f = lw m g) : n = m := by
  have h1 := size_lw (f := f) T.lo T.hi
  have h2 := size_lw (f := g) U.lo U.hi
  rw [h, h2] at h1
  have := Option.some.inj h1
  omega

/-! ### the mirror image -/
def flip (x : Nat) : Nat := if x = 76 then 82 else 76
theorem flip_lw {n : Nat} {t : Tn} (T : Tb n t) : (lw n t).map flip = lw n (fun a b c => - t a b c) := by
  unfold lw
  rw [List.map_map]
  refine List.map_congr_left fun x hx => ?_
  obtain ⟨h1, h2, h3⟩ := mem_thr.mp hx
  show flip (ltr _) = _
  unfold flip ltr
  rcases T.tab.pm _ _ _ h1 h2 h3 with h | h <;> simp [h]
theorem items_strD {l : List Nat} : pyItems (strD l) = .ok (l.map fun c => strD [c]) := by
  show M.ok (signsD ⟨l.toArray⟩) = _
  unfold signsD
  rw [show (Str.mk l.toArray).cps.toList = l from List.toList_toArray]
  rfl
theorem neg_tab {n : Nat} {t : Tn} (T : Tb n t) : unO 1 m_Table___neg (tabD n t) = .ok (tabD n (fun a b c => - t a b c)) := by
  show m_Table___neg [tabD n t] = _
  show (c_Table___neg (tabD n t)).toM = _
  unfold c_Table___neg
  rw [b1_ok, fld_letters, b1_ok, lcM_ok items_strD (r := ((lw n t).map flip).map fun x => strD [x]) ?_ (by rw [List.length_map, List.length_map]; exact T.tab.len)]
  · rw [show b2s pyJoin (.ok (.str "")) (.ok (.lst (((lw n t).map flip).map fun x => strD [x]))) = pyJoin (.str "") (.lst (((lw n t).map flip).map fun x => strD [x])) from rfl, join_signs (by rw [List.length_map]; exact T.tab.len), flip_lw T, make_ok T.neg]
    rfl
  · rw [compL_map (fun c => strD [c]) (fun c => [strD [flip c]]) fun c hc => ?_]
    · rw [List.map_map, List.map_eq_flatMap]
      rfl
    · refine elM_t ?_
      rw [strD_L, strD_R, b2_ok, eq_strD, b1_ok, isB_bl, ifM_ok]
      unfold flip
      by_cases h : c = 76 <;> simp [h]
end Mir
namespace Mir
open PySem PySem.Spec L2

def c_Table_renamed (p_self p_names : D) : Ctl Unit Unit := M.bindC (b1 isB (b2 pyNe (b1 pySorted (mlist [.ok p_names])) (b1 pyListRg (b1 (pyFld 1 "posts") (.ok p_self))))) () fun c => if c = true then (.exn ⟨1, []⟩ ()) else M.bindC (lcM (b1 pyItems (b1 m_threes (mlist [b1 (pyFld 1 "posts") (.ok p_self)]))) (fun v2_t => un3 .stk v2_t fun v3_a v4_b v5_c => elM (.ok true) (b1 m_turn_of (mlist [b1 (pyFld 1 "letters") (.ok p_self), b2 pyIx (.ok p_names) (.ok v3_a), b2 pyIx (.ok p_names) (.ok v4_b), b2 pyIx (.ok p_names) (.ok v5_c)])))) () fun v1_turns => M.bindC (b1 (mkO 1 m_Table___init) (mlist [b2s pyJoin (.ok (.str "")) (lcM (b1 pyItems (.ok v1_turns)) (fun v6_turn => elM (.ok true) (ifM (b1 isB (b2 pyEq (.ok v6_turn) (.ok (.int 1)))) (.ok (.str "L")) (.ok (.str "R")))))])) () Ctl.ret
def m_Table_renamed : List D → M D := ar2 c_Table_renamed
def c_l_named (p_pool_here p_at p_posts p_many : D) : Ctl Unit Unit := M.bindC (lcM (b1 pyRange1 (mlist [.ok p_posts])) (fun v2_k => elM (.ok true) (.ok v2_k))) () fun v1_left => M.bindC (b1 mkLst (mlist [])) () fun v3_named_here => M.bindC (b1 pyRange1 (mlist [.ok p_many])) () fun v7_ds => (forC (X := Unit) (S := D × D) (fun v5_k (v4_j : D × D) => M.bindC (appPopM v4_j.2 v4_j.1 (flatM (b1 m_l_draw (mlist [.ok p_pool_here, b2 pyAdd (.ok p_at) (.ok v5_k), b1 pyLen (mlist [.ok v4_j.1])])))) () fun v6_p => .nx (v6_p.2, v6_p.1)) v7_ds (v1_left, v3_named_here)).bind fun (v4_j : D × D) => M.bindC (.ok v4_j.2) () Ctl.ret
def m_l_named : List D → M D := ar4 c_l_named
def c_l_refused_8fa (p_table p_names : D) : Ctl Unit Unit := M.bindC (.ok .non) () fun v1_told => (Ctl.tryC (X := Unit) (Y := D) (S := Unit) (M.bindC (methM 1 "renamed" m_Table_renamed (.ok p_table) (mlist [.ok p_names])) v1_told fun v4_told => .nx ()) [false, true, false, false, false, false] (fun (e : Exc) (v2_y : D) => M.bindC (orM (b1 pyTruth (isEx [false, false, true, false, false, false] e)) (orM (b1 pyTruth (isEx [false, false, false, true, false, false] e)) (orM (b1 pyTruth (isEx [false, false, false, false, true, false] e)) (b1 pyTruth (isEx [false, false, false, false, false, true] e))))) () fun c => if c = true then (M.bindC (.ok (.bl false)) () Ctl.ret) else M.bindC (andV (b2 pyIs (.ok v2_y) (.ok .non)) (andV (isEx [true, true, true, true, true, true] e) (isEx [true, true, true, true, true, true] e))) () Ctl.ret)).bind fun (v3_j : Unit) => M.bindC (.ok (.bl false)) () Ctl.ret
def m_l_refused_8fa : List D → M D := ar2 c_l_refused_8fa
def c_l_taken (p_turns_here p_posts p_names : D) : Ctl Unit Unit := M.bindC (.ok (.str "")) () fun v1_letters_here => M.bindC (b1 pyRange1 (mlist [.ok p_posts])) () fun v11_ds => (forC (X := Unit) (S := D) (fun v3_c (v2_j : D) => M.bindC (b1 pyRange1 (mlist [.ok v3_c])) () fun v10_ds => (forC (X := Unit) (S := D) (fun v5_b (v4_j : D) => M.bindC (b1 pyRange1 (mlist [.ok v5_b])) () fun v9_ds => (forC (X := Unit) (S := D) (fun v7_a (v6_j : D) => M.bindC (b2 pyAdd (.ok v6_j) (b2 pyIx (b1 mkLst (mlist [.ok (.str "R"), .ok (.str "L")])) (b1 pyInt (mlist [b2 pyEq (b2 pyIx (.ok p_turns_here) (b1 mkTup (mlist [b2 pyIx (.ok p_names) (.ok v7_a), b2 pyIx (.ok p_names) (.ok v5_b), b2 pyIx (.ok p_names) (.ok v3_c)]))) (.ok (.int 1))])))) () fun v8_letters_here => .nx v8_letters_here) v9_ds v4_j).bind fun (v6_j : D) => .nx v6_j) v10_ds v2_j).bind fun (v4_j : D) => .nx v4_j) v11_ds v1_letters_here).bind fun (v2_j : D) => M.bindC (.ok v2_j) () Ctl.ret
def m_l_taken : List D → M D := ar3 c_l_taken
def c_law_k11 (p_script : D) : Ctl Unit Unit := M.bindC (b1 m_l_pool (mlist [.ok p_script])) () fun v1_pool_here => M.bindC (b2 pyAdd (.ok (.int 3)) (b2 pyMod (b2 pyAdd (b1 m_l_draw (mlist [.ok v1_pool_here, .ok (.int 0), .ok (.int 6)])) (.ok (.int 2))) (.ok (.int 6)))) () fun v2_posts => M.bindC (b1 m_l_turns (mlist [b1 m_l_places (mlist [.ok v1_pool_here, .ok (.int 12), .ok v2_posts])])) () fun v3_turns_here => M.bindC (b1 m_l_letters (mlist [.ok v3_turns_here, .ok v2_posts])) () fun v4_letters_here => M.bindC (b1 m_l_named (mlist [.ok v1_pool_here, .ok (.int 4), .ok v2_posts, .ok v2_posts])) () fun v5_names => M.bindC (b1 (mkO 1 m_Table___init) (mlist [.ok v4_letters_here])) () fun v6_table => M.bindC (b1 pyList (mlist [.ok v5_names])) () fun v7_given => M.bindC (methM 1 "renamed" m_Table_renamed (.ok v6_table) (mlist [.ok v7_given])) () fun v8_told => M.bindC (orM (b1 isB (b2 pyNe (b1 (pyFld 1 "letters") (.ok v8_told)) (b1 m_l_taken (mlist [.ok v3_turns_here, .ok v2_posts, .ok v5_names])))) (orM (b1 isB (b2 pyNe (b1 (pyFld 1 "posts") (.ok v8_told)) (.ok v2_posts))) (b1 isB (b2 pyNe (.ok v7_given) (.ok v5_names))))) () fun c => if c = true then (M.bindC (.ok (.bl false)) () Ctl.ret) else M.bindC (lcM (b1 pyRange1 (mlist [.ok v2_posts])) (fun v10_k => elM (.ok true) (indexM (.ok v5_names) (.ok v10_k)))) () fun v9_back => M.bindC (orM (notM (b1 isB (b2 (cmpO 1 m_Table___eq) (methM 1 "renamed" m_Table_renamed (.ok v8_told) (mlist [.ok v9_back])) (.ok v6_table)))) (b1 isB (b2 pyNe (b1 (pyFld 1 "letters") (.ok v6_table)) (.ok v4_letters_here)))) () fun c => if c = true then (M.bindC (.ok (.bl false)) () Ctl.ret) else M.bindC (b1 m_l_draw (mlist [.ok v1_pool_here, .ok (.int 1), .ok v2_posts])) () fun v11_spot => M.bindC (b1 pyList (mlist [.ok v5_names])) () fun v12_bad => M.bindC (setM v12_bad (b2 pyIx (b1 mkLst (mlist [b1 pyNeg (.ok (.int 1)), .ok v2_posts, b2 pyIx (.ok v5_names) (b2 pySub (.ok v11_spot) (.ok (.int 1)))])) (b1 m_l_draw (mlist [.ok v1_pool_here, .ok (.int 2), .ok (.int 3)]))) (.ok v11_spot)) () fun v13_bad => (M.bindC (b1 isB (b2 pyEq (b1 m_l_draw (mlist [.ok v1_pool_here, .ok (.int 3), .ok (.int 3)])) (.ok (.int 1)))) () fun c => if c = true then (M.bindC (b2 pyIx (b1 mkLst (mlist [slM (.ok v5_names) (.ok none) (b1 someI (b1 pyNeg (.ok (.int 1)))), b2 pyAdd (.ok v5_names) (b1 mkLst (mlist [.ok v2_posts])), b2 pyAdd (.ok v5_names) (b1 mkLst (mlist [b2 pyIx (.ok v5_names) (.ok (.int 0))]))])) (b1 m_l_draw (mlist [.ok v1_pool_here, .ok (.int 2), .ok (.int 3)]))) () fun v15_bad => .nx v15_bad) else (.nx v13_bad) : Ctl Unit D).bind fun (v14_j : D) => M.bindC (b1 pyList (mlist [.ok v14_j])) () fun v16_kept => M.bindC (andV (b1 m_l_refused_8fa (mlist [.ok v6_table, .ok v14_j])) (andV (b2 pyEq (.ok v14_j) (.ok v16_kept)) (b2 pyEq (b1 (pyFld 1 "letters") (.ok v6_table)) (.ok v4_letters_here)))) () Ctl.ret
def m_law_k11 : List D → M D := ar1 c_law_k11
end Mir
namespace Mir
open PySem PySem.Spec L2

/-! ### calls -/
section
variable {α : Type} {m : List D → M α} {a b c d e : D}
theorem c1 : b1 m (mlist [.ok a]) = m [a] := by rw [mlist_cons, mlist_nil, bind_ok, b1_ok]
theorem c2 : b1 m (mlist [.ok a, .ok b]) = m [a, b] := by rw [mlist_cons, mlist_cons, mlist_nil, bind_ok, bind_ok, b1_ok]
theorem c3 : b1 m (mlist [.ok a, .ok b, .ok c]) = m [a, b, c] := by rw [mlist_cons, mlist_cons, mlist_cons, mlist_nil, bind_ok, bind_ok, bind_ok, b1_ok]
theorem c4 : b1 m (mlist [.ok a, .ok b, .ok c, .ok d]) = m [a, b, c, d] := by rw [mlist_cons, mlist_cons, mlist_cons, mlist_cons, mlist_nil, bind_ok, bind_ok, bind_ok, bind_ok, b1_ok]
theorem c5 : b1 m (mlist [.ok a, .ok b, .ok c, .ok d, .ok e]) = m [a, b, c, d, e] := by rw [mlist_cons, mlist_cons, mlist_cons, mlist_cons, mlist_cons, mlist_nil, bind_ok, bind_ok, bind_ok, bind_ok, bind_ok, b1_ok]
end
/-! ### lists of posts -/
theorem map_inj {α β : Type} {f : α → β} (h : ∀ a b, f a = f b → a = b) : ∀ {l m : List α}, l.map f = m.map f → l = m
  | [], [], _ => rfl
  | a :: l, b :: m, e => by
    rw [List.map_cons, List.map_cons, List.cons.injEq] at e
    rw [h a b e.1, map_inj h e.2]
  | [], _ :: _, e => by simp at e
  | _ :: _, [], e => by simp at e
theorem erase_perm {α : Type} : ∀ {l : List α} {j : Nat} (h : j < l.length), (l[j] :: l.eraseIdx j).Perm l
  | a :: l, 0, _ => .refl _
  | a :: l, j + 1, h => ((List.Perm.swap a _ _)).trans ((erase_perm (l := l) (j := j) (by simpa using h)).cons a)
theorem erase_map {α β : Type} (f : α → β) : ∀ (l : List α) (k : Nat), (l.map f).eraseIdx k = (l.eraseIdx k).map f
  | [], _ => rfl
  | _ :: _, 0 => rfl
  | a :: l, k + 1 => congrArg (f a :: ·) (erase_map f l k)
theorem nodup_at {α : Type} {l : List α} (nd : l.Nodup) {i j : Nat} (hi : i < l.length) (hj : j < l.length) (e : l[i] = l[j]) : i = j := by
  rcases Nat.lt_trichotomy i j with h | h | h
  · exact absurd e (List.pairwise_iff_getElem.mp nd i j hi hj h)
  · exact h
  · exact absurd e.symm (List.pairwise_iff_getElem.mp nd j i hj hi h)
def natsL (l : List Nat) : D := .lst (natsD l)
theorem ix_nats {l : List Nat} {k : Nat} (h : k < l.length) : pyIx (natsL l) (.int k) = .ok (.int l[k]) := by
  show ofOpt (atI (natsD l) (k : Int)) = _
  rw [atI_nat (x := D.int l[k]) (by unfold natsD; rw [List.getElem?_map, List.getElem?_eq_getElem h]; rfl)]
  rfl
theorem len_nats {l : List Nat} : b1 pyLen (mlist [.ok (natsL l)]) = .ok (.int l.length) := by
  rw [mlist_cons, mlist_nil, bind_ok, b1_ok]
  show M.ok (D.int (natsD l).length) = _
  unfold natsD
  rw [List.length_map]
theorem list_nats {l : List Nat} : b1 pyList (mlist [.ok (natsL l)]) = .ok (natsL l) := by
  rw [mlist_cons, mlist_nil, bind_ok, b1_ok]
  rfl
theorem natsD_inj {l m : List Nat} : natsD l = natsD m ↔ l = m := by
  unfold natsD
  constructor
  · intro h
    exact map_inj (f := fun k : Nat => D.int k) (fun a b e => by have := D.int.inj e; omega) h
  · rintro rfl; rfl
theorem nats_std (l : List Nat) : stdD (natsL l) = true ∧ depD (natsL l) ≤ 64 := by
  have h : ∀ d ∈ natsD l, stdD d = true ∧ depD d = 0 := fun d hd => by
    obtain ⟨x, _, rfl⟩ := List.mem_map.mp hd
    exact ⟨rfl, rfl⟩
  refine ⟨?_, ?_⟩
  · simp only [natsL, stdD]
    exact stdDs_all fun d hd => (h d hd).1
  · have := depDs_le (k := 0) fun d hd => by rw [(h d hd).2]; exact Nat.le_refl _
    simp only [natsL, depD]
    omega
theorem ints_std (l : List Int) : stdD (intsD l) = true ∧ depD (intsD l) ≤ 64 := by
  have h : ∀ d ∈ l.map D.int, stdD d = true ∧ depD d = 0 := fun d hd => by
    obtain ⟨x, _, rfl⟩ := List.mem_map.mp hd
    exact ⟨rfl, rfl⟩
  refine ⟨?_, ?_⟩
  · simp only [intsD, stdD]
    exact stdDs_all fun d hd => (h d hd).1
  · have := depDs_le (k := 0) fun d hd => by rw [(h d hd).2]; exact Nat.le_refl _
    simp only [intsD, depD]
    omega
theorem natsL_ints {l : List Nat} : natsL l = intsD (l.map fun k : Nat => (k : Int)) := by
  unfold natsL natsD intsD
  rw [List.map_map]
  rfl
theorem intsD_inj {l m : List Int} : intsD l = intsD m ↔ l = m := by
  unfold intsD
  constructor
  · intro h
    exact map_inj (fun a b e => D.int.inj e) (D.lst.inj h)
  · rintro rfl; rfl
theorem ne_ints {l m : List Int} : pyNe (intsD l) (intsD m) = .ok (.bl (!decide (l = m))) ∧ pyEq (intsD l) (intsD m) = .ok (.bl (decide (l = m))) := by
  obtain ⟨b, e1, e2, h⟩ := eq_std (ints_std l).1 (ints_std m).1 (ints_std l).2 (ints_std m).2
  have : b = decide (l = m) := by
    rw [Bool.eq_iff_iff, h, decide_eq_true_eq, intsD_inj]
  rw [e1, e2, this]
  exact ⟨rfl, rfl⟩
theorem seqIx {k n : Nat} (h : k < n) : seqIndex? (k : Int) n = some k := by
  unfold seqIndex?
  have h1 : ¬((k : Int) < 0) := by omega
  simp only [h1, if_false]
  rw [if_pos (by simp; omega)]
  simp
theorem pop_ok {xs ys : List D} {i : Int} (h : -(2 ^ 63) ≤ i ∧ i < 2 ^ 63 ∧ xs.length < sizeLine) : appPopM (.lst xs) (.lst ys) (.ok (.int i)) = (ofOpt (seqIndex? i ys.length)).bind fun k => (ofOpt ys[k]?).bind fun y => .ok (.lst (xs ++ [y]), .lst (ys.eraseIdx k)) := if_pos h
theorem pop_nats {x y : List Nat} {k : Nat} (hx : x.length < 1000) (hy : y.length < 1000) (h : k < y.length) : appPopM (natsL x) (natsL y) (.ok (.int k)) = .ok (natsL (x ++ [y[k]]), natsL (y.eraseIdx k)) := by
  have h1 : (natsD y).length = y.length := by unfold natsD; rw [List.length_map]
  have h2 : (natsD x).length = x.length := by unfold natsD; rw [List.length_map]
  unfold natsL
  rw [pop_ok ⟨by omega, by omega, by rw [h2]; exact sz_big (by omega)⟩, h1, seqIx h]
  show (ofOpt (natsD y)[k]?).bind (fun v => M.ok (D.lst (natsD x ++ [v]), D.lst ((natsD y).eraseIdx k))) = _
  have e : (natsD y)[k]? = some (D.int y[k]) := by unfold natsD; rw [List.getElem?_map, List.getElem?_eq_getElem h]; rfl
  rw [e]
  show M.ok (D.lst (natsD x ++ [D.int y[k]]), D.lst ((natsD y).eraseIdx k)) = _
  unfold natsD
  rw [List.map_append, erase_map]
  rfl
/-- some of n posts, in a drawn order -/
structure Named (n many : Nat) (l : List Nat) : Prop where
  len : l.length = many
  nd : l.Nodup
  lt : ∀ x ∈ l, x < n
theorem range_comp {n : Nat} (h : n < 1000) : lcM (b1 pyRange1 (mlist [.ok (.int n)])) (fun v2_k => elM (.ok true) (.ok v2_k)) = .ok (natsL (List.range n)) := by
  rw [lcM_ok (range_n (by omega)) (compR (fun j => [D.int j]) fun j hj => elM_t rfl) ?_]
  · unfold natsL natsD
    rw [List.map_eq_flatMap]
  · have := len_flat (g := fun j : Nat => [D.int j]) (k := 1) (l := List.range n) fun x _ => by simp
    rw [List.length_range] at this
    omega
theorem named_ok (l : List Int) (at0 n many : Nat) (hm : many ≤ n) (hn : n ≤ 8) : ∃ p, m_l_named [intsD l, .int at0, .int n, .int many] = .ok (natsL p) ∧ Named n many p := by
  have main : RetIs (c_l_named (intsD l) (.int at0) (.int n) (.int many)) fun d => ∃ p, d = natsL p ∧ Named n many p := by
    unfold c_l_named
    rw [range_comp (by omega), bindC_ok, show b1 mkLst (mlist []) = .ok (natsL []) from rfl, bindC_ok, range_n (by omega), bindC_ok]
    refine NxIs.ret (loopR_nx (fun k (s : D × D) => ∃ left named : List Nat, s = (natsL left, natsL named) ∧ (left ++ named).Perm (List.range n) ∧ named.length = k) ⟨List.range n, [], rfl, by simp, rfl⟩ ?_) ?_
    · rintro k s hk ⟨left, named, rfl, pm, hl⟩
      dsimp only
      have hlen := pm.length_eq
      rw [List.length_append, List.length_range] at hlen
      rw [len_nats, b2_ok, add_ii, mlist_cons, mlist_cons, mlist_cons, mlist_nil, bind_ok, bind_ok, bind_ok, b1_ok]
      obtain ⟨j, ej, hj⟩ := draw_n l (at0 + k) left.length (by omega)
      rw [Int.natCast_add] at ej
      rw [ej, show flatM (.ok (D.int j)) = .ok (D.int j) from rfl, pop_nats (by omega) (by omega) hj, bindC_ok]
      refine .mk ⟨_, _, rfl, ?_, by rw [List.length_append, List.length_singleton, hl]⟩
      refine List.Perm.trans ?_ pm
      have h1 := erase_perm hj
      have h2 : (left.eraseIdx j ++ (named ++ [left[j]])).Perm (left[j] :: left.eraseIdx j ++ named) := by
        rw [← List.append_assoc]
        refine List.perm_append_comm.trans ?_
        simp
      exact h2.trans (h1.append_right named)
    · rintro s ⟨left, named, rfl, pm, hl⟩
      dsimp only
      rw [bindC_ok]
      refine .mk ⟨named, rfl, hl, ?_, fun x hx => ?_⟩
      · have := pm.nodup_iff.mpr List.nodup_range
        exact (List.nodup_append.mp this).2.1
      · exact List.mem_range.mp (pm.mem_iff.mp (List.mem_append_right _ hx))
  obtain ⟨d, e, p, rfl, h⟩ := main
  refine ⟨p, ?_, h⟩
  show (c_l_named (intsD l) (.int at0) (.int n) (.int many)).toM = _
  rw [e]
  rfl

/-! ### new names -/
def nm (p : List Nat) (a : Nat) : Nat := p.getD a 0
theorem nm_at {p : List Nat} {a : Nat} (h : a < p.length) : nm p a = p[a] := by unfold nm; rw [List.getD_eq_getElem?_getD, List.getElem?_eq_getElem h]; rfl
theorem alt_tn (f : Tn) : Alt (tn f) := by
  refine ⟨fun a b c h1 h2 h3 => ?_, fun a b c h1 h2 h3 => ?_⟩
  · unfold tn
    rcases Nat.lt_or_gt_of_ne h1 with k1 | k1 <;> rcases Nat.lt_or_gt_of_ne h2 with k2 | k2 <;> rcases Nat.lt_or_gt_of_ne h3 with k3 | k3 <;> first | omega | (simp only [k1, k2, k3, if_true, Nat.not_lt_of_lt k1, Nat.not_lt_of_lt k2, Nat.not_lt_of_lt k3, if_false]; first | rfl | omega)
  · unfold tn
    rcases Nat.lt_or_gt_of_ne h1 with k1 | k1 <;> rcases Nat.lt_or_gt_of_ne h2 with k2 | k2 <;> rcases Nat.lt_or_gt_of_ne h3 with k3 | k3 <;> first | omega | (simp only [k1, k2, k3, if_true, Nat.not_lt_of_lt k1, Nat.not_lt_of_lt k2, Nat.not_lt_of_lt k3, if_false]; first | rfl | omega)
theorem tn_local {f : Tn} {a b c : Nat} (h1 : f a c b = - f a b c) (h2 : f b a c = - f a b c) (h3 : f b c a = f a b c) (h4 : f c a b = f a b c) (h5 : f c b a = - f a b c) : tn f a b c = f a b c := by
  unfold tn
  split <;> split <;> (try split) <;> omega
/-- the turns by the new names: post k is post p[k] of t -/
def ren (t : Tn) (p : List Nat) : Tn := tn fun a b c => t (nm p a) (nm p b) (nm p c)
theorem Named.inj {n many : Nat} {p : List Nat} (h : Named n many p) {a b : Nat} (ha : a < many) (hb : b < many) (hab : a ≠ b) : nm p a ≠ nm p b := by
  have ha' : a < p.length := by rw [h.len]; exact ha
  have hb' : b < p.length := by rw [h.len]; exact hb
  rw [nm_at ha', nm_at hb']
  intro e
  exact hab (nodup_at h.nd ha' hb' e)
theorem Named.below {n many : Nat} {p : List Nat} (h : Named n many p) {a : Nat} (ha : a < many) : nm p a < n := by
  have ha' : a < p.length := by rw [h.len]; exact ha
  rw [nm_at ha']
  exact h.lt _ (List.getElem_mem ha')
theorem Tb.congr {n : Nat} {t u : Tn} (T : Tb n t) (al : Alt u) (h : ∀ a b c, a < n → b < n → c < n → a ≠ b → a ≠ c → b ≠ c → u a b c = t a b c) : Tb n u where
  lo := T.lo
  hi := T.hi
  al := al
  pm := fun a b c h1 h2 h3 h4 h5 h6 => by rw [h a b c h1 h2 h3 h4 h5 h6]; exact T.pm a b c h1 h2 h3 h4 h5 h6
  r4 := fun w a b c h1 h2 h3 h4 h5 h6 h7 h8 h9 h10 q => T.r4 w a b c h1 h2 h3 h4 h5 h6 h7 h8 h9 h10 (by
    unfold Q4 at *
    rw [h w a b h1 h2 h3 h5 h6 h8, h w a c h1 h2 h4 h5 h7 h9, h w b c h1 h3 h4 h6 h7 h10, h a b c h2 h3 h4 h8 h9 h10] at q
    exact q)
  r5 := fun x a b c d h1 h2 h3 h4 h5 h6 h7 h8 h9 h10 h11 h12 h13 h14 h15 q => T.r5 x a b c d h1 h2 h3 h4 h5 h6 h7 h8 h9 h10 h11 h12 h13 h14 h15 (by
    unfold brk5 at *
    rw [h x a b h1 h2 h3 h6 h7 h10, h x c d h1 h4 h5 h8 h9 h15, h x a c h1 h2 h4 h6 h8 h11, h x b d h1 h3 h5 h7 h9 h14, h x a d h1 h2 h5 h6 h9 h12, h x b c h1 h3 h4 h7 h8 h13] at q
    exact q)
theorem ren_at {n m : Nat} {t : Tn} (al : Alt t) {p : List Nat} (h : Named n m p) {a b c : Nat} (ha : a < m) (hb : b < m) (hc : c < m) (hab : a ≠ b) (hac : a ≠ c) (hbc : b ≠ c) : ren t p a b c = t (nm p a) (nm p b) (nm p c) := by
  have k1 := h.inj ha hb hab
  have k2 := h.inj ha hc hac
  have k3 := h.inj hb hc hbc
  exact tn_local (al.s2 _ _ _ k1 k2 k3) (al.s1 _ _ _ k1 k2 k3) (al.cyc k1 k2 k3) (al.cyc2 k1 k2 k3) (al.rv k1 k2 k3)
theorem Tb.ren {n m : Nat} {t : Tn} (T : Tb n t) {p : List Nat} (h : Named n m p) (h3 : 3 ≤ m) (h8 : m ≤ 8) : Tb m (Mir.ren t p) where
  lo := h3
  hi := h8
  al := alt_tn _
  pm := fun a b c h1 h2 h3 h4 h5 h6 => by
    rw [ren_at T.al h h1 h2 h3 h4 h5 h6]
    exact T.pm _ _ _ (h.below h1) (h.below h2) (h.below h3) (h.inj h1 h2 h4) (h.inj h1 h3 h5) (h.inj h2 h3 h6)
  r4 := fun w a b c h1 h2 h3 h4 h5 h6 h7 h8 h9 h10 q => T.r4 (nm p w) (nm p a) (nm p b) (nm p c) (h.below h1) (h.below h2) (h.below h3) (h.below h4) (h.inj h1 h2 h5) (h.inj h1 h3 h6) (h.inj h1 h4 h7) (h.inj h2 h3 h8) (h.inj h2 h4 h9) (h.inj h3 h4 h10) (by
    unfold Q4 at *
    rw [ren_at T.al h h1 h2 h3 h5 h6 h8, ren_at T.al h h1 h2 h4 h5 h7 h9, ren_at T.al h h1 h3 h4 h6 h7 h10, ren_at T.al h h2 h3 h4 h8 h9 h10] at q
    exact q)
  r5 := fun x a b c d h1 h2 h3 h4 h5 h6 h7 h8 h9 h10 h11 h12 h13 h14 h15 q => T.r5 (nm p x) (nm p a) (nm p b) (nm p c) (nm p d) (h.below h1) (h.below h2) (h.below h3) (h.below h4) (h.below h5) (h.inj h1 h2 h6) (h.inj h1 h3 h7) (h.inj h1 h4 h8) (h.inj h1 h5 h9) (h.inj h2 h3 h10) (h.inj h2 h4 h11) (h.inj h2 h5 h12) (h.inj h3 h4 h13) (h.inj h3 h5 h14) (h.inj h4 h5 h15) (by
    unfold brk5 at *
    rw [ren_at T.al h h1 h2 h3 h6 h7 h10, ren_at T.al h h1 h4 h5 h8 h9 h15, ren_at T.al h h1 h2 h4 h6 h8 h11, ren_at T.al h h1 h3 h5 h7 h9 h14, ren_at T.al h h1 h2 h5 h6 h9 h12, ren_at T.al h h1 h3 h4 h7 h8 h13] at q
    exact q)
theorem lw_congr {n : Nat} {t u : Tn} (h : ∀ a b c, a < b → b < c → c < n → t a b c = u a b c) : lw n t = lw n u := by
  unfold lw
  refine List.map_congr_left fun x hx => ?_
  obtain ⟨h1, h2, h3⟩ := mem_thr.mp hx
  rw [h _ _ _ h1 h2 h3]
/-! ### table.renamed(names) -/
theorem intsOf_map (z : List Int) : intsOf (z.map D.int) = some z := by
  induction z with
  | nil => rfl
  | cons a z ih => show (intsOf (z.map D.int)).map (a :: ·) = _; rw [ih]; rfl
theorem sorted_ints {z : List Int} : b1 pySorted (mlist [.ok (intsD z)]) = .ok (intsD (isortI z)) := by
  rw [mlist_cons, mlist_nil, bind_ok, b1_ok]
  show (ofOpt (intsOf (z.map D.int))).bind (fun ns => M.ok (D.lst ((isortI ns).map D.int))) = _
  rw [intsOf_map]
  rfl
def rgI (n : Nat) : List Int := (List.range n).map fun k : Nat => (k : Int)
theorem listRg_i {n : Int} (h : -(2 ^ 62) ≤ n ∧ n < 16777216) : pyListRg (.int n) = .ok (.lst (rangeD 0 n.toNat)) := if_pos h
theorem listRg_n {n : Nat} (h : n < 1000) : pyListRg (.int n) = .ok (intsD (rgI n)) := by
  rw [listRg_i (by omega), Int.toNat_natCast, rangeD_map]
  unfold intsD rgI
  rw [List.map_map]
  rfl
theorem rgI_sorted (n : Nat) : (rgI n).Pairwise (· ≤ ·) := by
  unfold rgI
  rw [List.pairwise_map]
  exact List.pairwise_lt_range.imp fun h => by omega
theorem renamed_bad {n : Nat} {t : Tn} {z : List Int} (h : ¬ z.Perm (rgI n)) (hn : n ≤ 8) : m_Table_renamed [tabD n t, intsD z] = .exn ⟨1, []⟩ := by
  show (c_Table_renamed (tabD n t) (intsD z)).toM = _
  unfold c_Table_renamed
  have hne : isortI z ≠ rgI n := fun e => h (by rw [← e]; exact (isortI_perm z).symm)
  rw [sorted_ints, b1_ok, fld_posts, b1_ok, listRg_n (by omega), b2_ok, ne_ints.1, b1_ok, isB_bl, bindC_ok, decide_eq_false hne]
  rfl
theorem named_perm {n : Nat} {p : List Nat} (h : Named n n p) : p.Perm (List.range n) := by
  refine (List.perm_ext_iff_of_nodup h.nd List.nodup_range).mpr fun x => ⟨fun hx => List.mem_range.mpr (h.lt x hx), fun hx => ?_⟩
  refine Decidable.byContradiction fun hn => ?_
  have h1 : (x :: p).Nodup := List.nodup_cons.mpr ⟨hn, h.nd⟩
  have h2 := h1.length_le_of_subset (l₂ := List.range n) fun y hy => by
    rcases List.mem_cons.mp hy with rfl | hy
    · exact hx
    · exact List.mem_range.mpr (h.lt y hy)
  rw [List.length_cons, List.length_range, h.len] at h2
  omega
theorem renamed_ok {n : Nat} {t : Tn} (T : Tb n t) {p : List Nat} (h : Named n n p) : m_Table_renamed [tabD n t, natsL p] = .ok (tabD n (ren t p)) := by
  show (c_Table_renamed (tabD n t) (natsL p)).toM = _
  unfold c_Table_renamed
  have hp : isortI (p.map fun k : Nat => (k : Int)) = rgI n := sorted_uniq ((isortI_perm _).trans ((named_perm h).map _)) (isortI_sorted _) (rgI_sorted n)
  have hn := T.hi
  rw [natsL_ints, sorted_ints, b1_ok, fld_posts, b1_ok, listRg_n (by omega), b2_ok, ne_ints.1, b1_ok, isB_bl, bindC_ok, hp, decide_eq_true rfl, Bool.not_true, if_neg (by decide), ← natsL_ints]
  have e1 : lcM (b1 pyItems (b1 m_threes (mlist [.ok (.int n)]))) (fun v2_t => un3 .stk v2_t fun v3_a v4_b v5_c => elM (.ok true) (b1 m_turn_of (mlist [b1 (pyFld 1 "letters") (.ok (tabD n t)), b2 pyIx (.ok (natsL p)) (.ok v3_a), b2 pyIx (.ok (natsL p)) (.ok v4_b), b2 pyIx (.ok (natsL p)) (.ok v5_c)]))) = .ok (.lst ((thr n).map fun x => D.int (ren t p x.1 x.2.1 x.2.2))) := by
    rw [mlist_cons, mlist_nil, bind_ok, b1_ok, threes_ok hn, b1_ok]
    refine lcM_ok (ds := (thr n).map t3D) rfl ?_ (by rw [List.length_map]; have := thr_len n hn; omega)
    rw [compL_map t3D (fun x => [D.int (ren t p x.1 x.2.1 x.2.2)]) fun x hx => ?_, List.map_eq_flatMap]
    obtain ⟨k1, k2, k3⟩ := mem_thr.mp hx
    have l1 : x.1 < p.length := by rw [h.len]; omega
    have l2 : x.2.1 < p.length := by rw [h.len]; omega
    have l3 : x.2.2 < p.length := by rw [h.len]; omega
    show elM (.ok true) (b1 m_turn_of (mlist [b1 (pyFld 1 "letters") (.ok (tabD n t)), b2 pyIx (.ok (natsL p)) (.ok (.int x.1)), b2 pyIx (.ok (natsL p)) (.ok (.int x.2.1)), b2 pyIx (.ok (natsL p)) (.ok (.int x.2.2))])) = _
    refine elM_t ?_
    have d1 := h.inj (a := x.1) (b := x.2.1) (by omega) (by omega) (by omega)
    have d2 := h.inj (a := x.1) (b := x.2.2) (by omega) (by omega) (by omega)
    have d3 := h.inj (a := x.2.1) (b := x.2.2) (by omega) (by omega) (by omega)
    rw [b1_ok, fld_letters, b2_ok, ix_nats l1, b2_ok, ix_nats l2, b2_ok, ix_nats l3, mlist_cons, mlist_cons, mlist_cons, mlist_cons, mlist_nil, bind_ok, bind_ok, bind_ok, bind_ok, b1_ok, ← nm_at l1, ← nm_at l2, ← nm_at l3]
    rw [T.tab.turn (h.below (by omega)) (h.below (by omega)) (h.below (by omega)) d1 d2 d3, T.al.tn_eq d1 d2 d3, ren_at T.al h (by omega) (by omega) (by omega) (by omega) (by omega) (by omega)]
  rw [e1, bindC_ok]
  have U := T.ren h T.lo T.hi
  have e2 : lcM (b1 pyItems (.ok (.lst ((thr n).map fun x => D.int (ren t p x.1 x.2.1 x.2.2))))) (fun v6_turn => elM (.ok true) (ifM (b1 isB (b2 pyEq (.ok v6_turn) (.ok (.int 1)))) (.ok (.str "L")) (.ok (.str "R")))) = .ok (.lst ((lw n (ren t p)).map fun x => strD [x])) := by
    refine lcM_ok (ds := (thr n).map fun x => D.int (ren t p x.1 x.2.1 x.2.2)) rfl ?_ (by rw [List.length_map]; exact U.tab.len)
    rw [compL_map (fun x : T3 => D.int (ren t p x.1 x.2.1 x.2.2)) (fun x => [strD [ltr (ren t p x.1 x.2.1 x.2.2)]]) fun x hx => ?_]
    · unfold lw
      rw [List.map_map, List.map_eq_flatMap]
      rfl
    · obtain ⟨k1, k2, k3⟩ := mem_thr.mp hx
      refine elM_t ?_
      rw [b2_ok, eq_ii, b1_ok, isB_bl, ifM_ok, strD_L, strD_R]
      unfold ltr
      rcases U.tab.pm _ _ _ k1 k2 k3 with e | e <;> rw [e] <;> rfl
  rw [e2, show b2s pyJoin (.ok (.str "")) (.ok (.lst ((lw n (ren t p)).map fun x => strD [x]))) = pyJoin (.str "") (.lst ((lw n (ren t p)).map fun x => strD [x])) from rfl, join_signs U.tab.len, make_ok U, bindC_ok]
  rfl
/-- the letters of n posts put together, W telling whether a turn is left -/
theorem letters_gen {n : Nat} {f : Nat → Nat → Nat → Int} {W : D → D → D → M D} (hn : n ≤ 9) (hf : ∀ a b c, a < b → b < c → c < n → f a b c ≠ 0) (hW : ∀ a b c : Nat, a < b → b < c → c < n → W (.int a) (.int b) (.int c) = .ok (.bl (decide (f a b c = 1)))) :
    (forC (X := Unit) (S := D) (fun v3_c (v2_j : D) => M.bindC (b1 pyRange1 (mlist [.ok v3_c])) () fun v10_ds => (forC (X := Unit) (S := D) (fun v5_b (v4_j : D) => M.bindC (b1 pyRange1 (mlist [.ok v5_b])) () fun v9_ds => (forC (X := Unit) (S := D) (fun v7_a (v6_j : D) => M.bindC (b2 pyAdd (.ok v6_j) (b2 pyIx (b1 mkLst (mlist [.ok (.str "R"), .ok (.str "L")])) (b1 pyInt (mlist [W v7_a v5_b v3_c])))) () fun v8_letters_here => .nx v8_letters_here) v9_ds v4_j).bind fun (v6_j : D) => .nx v6_j) v10_ds v2_j).bind fun (v4_j : D) => .nx v4_j) (rangeD 0 n) (.str "")) = .nx (strD (lw n f)) := by
  let A (b c : Nat) (a : Nat) : List Nat := (List.range a).map fun a => ltr (f a b c)
  let B (c : Nat) (b : Nat) : List Nat := (List.range b).flatMap fun b => A b c b
  let C (c : Nat) : List Nat := (List.range c).flatMap fun c => B c c
  have hA : ∀ b c a, (A b c a).length = a := fun b c a => by show ((List.range a).map _).length = a; simp
  have hB : ∀ b c, b ≤ 9 → (B c b).length ≤ 81 := fun b c hb => by
    have := len_flat (g := fun b => A b c b) (k := 9) (l := List.range b) fun x hx => by rw [hA]; have := List.mem_range.mp hx; omega
    rw [List.length_range] at this
    show ((List.range b).flatMap fun b => A b c b).length ≤ 81
    omega
  have hC : ∀ c, c ≤ 9 → (C c).length ≤ 800 := fun c hc => by
    have := len_flat (g := fun c => B c c) (k := 81) (l := List.range c) fun x hx => hB _ _ (by have := List.mem_range.mp hx; omega)
    rw [List.length_range] at this
    show ((List.range c).flatMap fun c => B c c).length ≤ 800
    omega
  have hw : C n = lw n f := by
    show (List.range n).flatMap _ = _
    unfold lw thr
    rw [List.map_flatMap]
    congr 1
    funext c
    rw [List.map_flatMap]
    show (List.range c).flatMap _ = _
    congr 1
    funext b
    rw [List.map_map]
    rfl
  rw [strD_nil, show strD [] = (fun c => strD (C c)) 0 from rfl, loopR_st (fun c => strD (C c)) fun c hc => ?_]
  · rw [hw]
  · rw [mlist_cons, mlist_nil, bind_ok, b1_ok, range_i (by omega), bindC_ok, Int.toNat_natCast]
    have h1 : strD (C c) = (fun b => strD (C c ++ B c b)) 0 := by show _ = strD (C c ++ []); rw [List.append_nil]
    rw [h1, loopR_st (fun b => strD (C c ++ B c b)) fun b hb => ?_]
    · rw [ctl_nx]
      show Ctl.nx (strD (C c ++ B c c)) = Ctl.nx (strD ((List.range (c + 1)).flatMap _))
      rw [flat_succ]
    · rw [mlist_cons, mlist_nil, bind_ok, b1_ok, range_i (by omega), bindC_ok, Int.toNat_natCast]
      have h2 : strD (C c ++ B c b) = (fun a => strD (C c ++ B c b ++ A b c a)) 0 := by show _ = strD (C c ++ B c b ++ []); rw [List.append_nil]
      rw [h2, loopR_st (fun a => strD (C c ++ B c b ++ A b c a)) fun a ha => ?_]
      · rw [ctl_nx]
        show Ctl.nx (strD (C c ++ B c b ++ A b c b)) = Ctl.nx (strD (C c ++ (List.range (b + 1)).flatMap _))
        rw [flat_succ, List.append_assoc]
      · rw [hW a b c ha hb hc]
        simp only [mlist_cons, mlist_nil, bind_ok, b1_ok, int_b]
        have e : b2 pyIx (mkLst [.str "R", .str "L"]) (.ok (.int (if decide (f a b c = 1) = true then 1 else 0))) = .ok (strD [ltr (f a b c)]) := by
          rw [strD_L, strD_R]
          unfold ltr
          have := hf a b c ha hb hc
          by_cases h : f a b c = 1
          · simp only [h, decide_true, if_true]; rfl
          · simp only [h, this, decide_false, if_false, Bool.false_eq_true]; rfl
        rw [e, b2_ok, add_strD, bindC_ok]
        · show Ctl.nx (strD (C c ++ B c b ++ A b c a ++ [ltr (f a b c)])) = Ctl.nx (strD (C c ++ B c b ++ (List.range (a + 1)).map fun a => ltr (f a b c)))
          rw [List.range_succ, List.map_append, List.append_assoc]
          rfl
        · rw [List.length_append, List.length_append, hA]
          have := hB b c (by omega)
          have := hC c (by omega)
          simp only [List.length_singleton]
          omega
end Mir
namespace Mir
open PySem PySem.Spec L2

/-- the letters under new names, told by the law -/
theorem taken_ok {n : Nat} {t : Tn} (T : Tb n t) {p : List Nat} (h : Named n n p) : m_l_taken [.dct (turnsK n t), .int n, natsL p] = .ok (strD (lw n (ren t p))) := by
  have hn := T.hi
  have U := T.ren h T.lo T.hi
  show (c_l_taken (.dct (turnsK n t)) (.int n) (natsL p)).toM = _
  unfold c_l_taken
  have key := letters_gen (n := n) (f := ren t p) (W := fun a b c => b2 pyEq (b2 pyIx (.ok (.dct (turnsK n t))) (b1 mkTup (mlist [b2 pyIx (.ok (natsL p)) (.ok a), b2 pyIx (.ok (natsL p)) (.ok b), b2 pyIx (.ok (natsL p)) (.ok c)]))) (.ok (.int 1))) (by omega) U.ne0 fun a b c h1 h2 h3 => by
    have l1 : a < p.length := by rw [h.len]; omega
    have l2 : b < p.length := by rw [h.len]; omega
    have l3 : c < p.length := by rw [h.len]; omega
    have d1 := h.inj (a := a) (b := b) (by omega) (by omega) (by omega)
    have d2 := h.inj (a := a) (b := c) (by omega) (by omega) (by omega)
    have d3 := h.inj (a := b) (b := c) (by omega) (by omega) (by omega)
    rw [b2_ok, b2_ok, b2_ok, ix_nats l1, ix_nats l2, ix_nats l3, tup3, b2_ok, ← nm_at l1, ← nm_at l2, ← nm_at l3, ix_turns (h.below (by omega)) (h.below (by omega)) (h.below (by omega)) d1 d2 d3, b2_ok, eq_ii, ren_at T.al h (by omega) (by omega) (by omega) (by omega) (by omega) (by omega)]
  rw [bindC_ok, range_n (by omega), bindC_ok, key]
  rfl

theorem exn_true {m : M D} (h : m = .exn ⟨1, []⟩) {X : Type} : m = .exn ⟨1, []⟩ := h
theorem meth_ren {n : Nat} {t : Tn} {x : D} : methM 1 "renamed" m_Table_renamed (.ok (tabD n t)) (mlist [.ok x]) = m_Table_renamed [tabD n t, x] := rfl
theorem refused_ren {n : Nat} {t : Tn} {z : List Int} (h : ¬ z.Perm (rgI n)) (hn : n ≤ 8) : m_l_refused_8fa [tabD n t, intsD z] = .ok (.bl true) := by
  show (c_l_refused_8fa (tabD n t) (intsD z)).toM = _
  unfold c_l_refused_8fa
  rw [bindC_ok, meth_ren, renamed_bad h hn]
  rfl

/-! ### the names that lead back -/
def bk (n : Nat) (p : List Nat) : List Nat := (List.range n).map fun k => p.idxOf k
theorem find_nats {x : Nat} : ∀ (l : List Nat) (k : Nat), x ∈ l → findD (.int x) k (natsD l) = some (k + l.idxOf x)
  | [], _, h => by simp at h
  | a :: l, k, h => by
    show (if eqF (D.int a) (.int x) = true then some k else findD (.int x) (k + 1) (natsD l)) = _
    by_cases e : a = x
    · subst e
      rw [if_pos (by show ((a : Int) == (a : Int)) = true; simp), List.idxOf_cons_self]
      rfl
    · have e' : ¬((a : Int) = (x : Int)) := by omega
      rw [if_neg (by show ¬(((a : Int) == (x : Int)) = true); simpa using e'), find_nats l (k + 1) (by rcases List.mem_cons.mp h with h | h; exact absurd h.symm e; exact h), List.idxOf_cons, show (a == x) = false from beq_eq_false_iff_ne.mpr e]
      show some (k + 1 + l.idxOf x) = some (k + (l.idxOf x + 1))
      congr 1
      omega
theorem index_nats {l : List Nat} {x : Nat} (h : x ∈ l) : indexM (.ok (natsL l)) (.ok (.int x)) = .ok (.int (l.idxOf x : Nat)) := by
  show pyIndexOf (natsD l) (.int x) = _
  unfold pyIndexOf
  rw [if_pos ⟨rfl, by rw [List.all_eq_true]; intro d hd; obtain ⟨y, _, rfl⟩ := List.mem_map.mp hd; rfl⟩, find_nats l 0 h, Nat.zero_add]
  rfl
theorem bk_named {n : Nat} {p : List Nat} (h : Named n n p) : Named n n (bk n p) := by
  have mem : ∀ x, x < n → x ∈ p := fun x hx => (named_perm h).mem_iff.mpr (List.mem_range.mpr hx)
  refine ⟨by unfold bk; rw [List.length_map, List.length_range], ?_, fun x hx => ?_⟩
  · unfold bk
    refine List.pairwise_map.mpr ((List.nodup_range (n := n)).imp_of_mem fun {a b} ha hb hab e => ?_)
    have ha := mem a (List.mem_range.mp ha)
    have hb := mem b (List.mem_range.mp hb)
    have h1 := List.getElem_idxOf (List.idxOf_lt_length_of_mem ha)
    have h2 := List.getElem_idxOf (List.idxOf_lt_length_of_mem hb)
    apply hab
    rw [← h1, ← h2]
    congr 1
  · obtain ⟨y, hy, rfl⟩ := List.mem_map.mp hx
    have := List.idxOf_lt_length_of_mem (mem y (List.mem_range.mp hy))
    rw [h.len] at this
    exact this
theorem nm_bk {n : Nat} {p : List Nat} (h : Named n n p) {a : Nat} (ha : a < n) : nm p (nm (bk n p) a) = a := by
  have mem : a ∈ p := (named_perm h).mem_iff.mpr (List.mem_range.mpr ha)
  have hl : a < (bk n p).length := by rw [(bk_named h).len]; exact ha
  have e : nm (bk n p) a = p.idxOf a := by
    unfold nm bk
    rw [List.getD_eq_getElem?_getD, List.getElem?_map, List.getElem?_range ha]
    rfl
  have hi := List.idxOf_lt_length_of_mem mem
  rw [e, nm_at hi]
  exact List.getElem_idxOf hi
theorem mem_rgI {n : Nat} {x : Int} : x ∈ rgI n ↔ 0 ≤ x ∧ x < n := by
  unfold rgI
  rw [List.mem_map]
  constructor
  · rintro ⟨k, hk, rfl⟩
    have := List.mem_range.mp hk
    omega
  · rintro ⟨h1, h2⟩
    exact ⟨x.toNat, List.mem_range.mpr (by omega), by omega⟩
theorem rgI_len (n : Nat) : (rgI n).length = n := by unfold rgI; simp
theorem rgI_nd (n : Nat) : (rgI n).Nodup := by
  unfold rgI
  exact List.pairwise_map.mpr ((List.nodup_range (n := n)).imp fun h e => h (by omega))
abbrev toI (p : List Nat) : List Int := p.map fun k : Nat => (k : Int)
theorem np_len {n : Nat} {z : List Int} (h : z.length ≠ n) : ¬ z.Perm (rgI n) := fun q => h (by rw [q.length_eq, rgI_len])
theorem np_mem {n : Nat} {z : List Int} {x : Int} (hx : x ∈ z) (h : ¬(0 ≤ x ∧ x < n)) : ¬ z.Perm (rgI n) := fun q => h (mem_rgI.mp (q.mem_iff.mp hx))
theorem np_dup {n : Nat} {z : List Int} {i j : Nat} (hi : i < z.length) (hj : j < z.length) (hij : i ≠ j) (e : z[i] = z[j]) : ¬ z.Perm (rgI n) := fun q => hij (nodup_at (q.nodup_iff.mpr (rgI_nd n)) hi hj e)
theorem set_ints {z : List Int} {s : Nat} {v : Int} (h : s < z.length) : setM (intsD z) (.ok (.int v)) (.ok (.int s)) = .ok (intsD (z.set s v)) := by
  show (ofOpt (ixN (z.map D.int).length (s : Int))).bind (fun j => M.ok (D.lst ((z.map D.int).set j (.int v)))) = _
  have e : ixN (z.map D.int).length (s : Int) = some s := by
    rw [List.length_map]
    unfold ixN
    rw [if_pos (by omega), if_pos (by omega)]
    rfl
  rw [e]
  show M.ok (D.lst ((z.map D.int).set s (.int v))) = _
  unfold intsD
  rw [List.map_set]
theorem lst3_ix {a b c : D} {u : Nat} (hu : u < 3) : ∃ d, pyIx (.lst [a, b, c]) (.int u) = .ok d ∧ ((u = 0 ∧ d = a) ∨ (u = 1 ∧ d = b) ∨ (u = 2 ∧ d = c)) := by
  have : u = 0 ∨ u = 1 ∨ u = 2 := by omega
  rcases this with rfl | rfl | rfl
  · exact ⟨a, rfl, by simp⟩
  · exact ⟨b, rfl, by simp⟩
  · exact ⟨c, rfl, by simp⟩
/-- names[spot - 1], with -1 for the last -/
theorem ix_before {p : List Nat} {s : Nat} (h : s < p.length) (h1 : 1 < p.length) : ∃ j, ∃ hj : j < p.length, j ≠ s ∧ pyIx (natsL p) (.int ((s : Int) - 1)) = .ok (.int p[j]) := by
  by_cases hs : s = 0
  · subst hs
    refine ⟨p.length - 1, by omega, by omega, ?_⟩
    show ofOpt (atI (natsD p) (((0 : Nat) : Int) - 1)) = _
    unfold atI ixN
    have hl : (natsD p).length = p.length := by unfold natsD; rw [List.length_map]
    rw [if_neg (by omega), if_pos (by omega), hl]
    rw [show ((((0 : Nat) : Int) - 1) + (p.length : Int)).toNat = p.length - 1 by omega]
    show ofOpt ((natsD p)[p.length - 1]?) = _
    unfold natsD
    rw [List.getElem?_map, List.getElem?_eq_getElem (by omega)]
    rfl
  · refine ⟨s - 1, by omega, by omega, ?_⟩
    rw [show ((s : Int) - 1) = ((s - 1 : Nat) : Int) by omega]
    exact ix_nats (by omega)
theorem b1_draw {l : List Int} {k m : D} : b1 m_l_draw (mlist [.ok (intsD l), .ok k, .ok m]) = m_l_draw [intsD l, k, m] := by
  rw [mlist_cons, mlist_cons, mlist_cons, mlist_nil, bind_ok, bind_ok, bind_ok, b1_ok]
theorem cut_last {z : List Int} (h : 0 < z.length) : slM (.ok (intsD z)) (.ok none) (b1 someI (b1 pyNeg (.ok (.int 1)))) = .ok (intsD (z.take (z.length - 1))) := by
  show M.ok (D.lst (cutD (z.map D.int) none (some (-1)))) = _
  unfold cutD
  have e1 : HT.sIx (z.map D.int).length 0 none = 0 := rfl
  have e2 : HT.sIx (z.map D.int).length (z.map D.int).length (some (-1)) = z.length - 1 := by
    unfold HT.sIx
    dsimp only
    rw [if_pos (by decide), List.length_map]
    omega
  rw [e1, e2, List.drop_zero, Nat.sub_zero, ← List.map_take]
  rfl
theorem add_ints {y z : List Int} (h : y.length + z.length < 1000) : pyAdd (intsD y) (intsD z) = .ok (intsD (y ++ z)) := by
  show (if (y.map D.int).length + (z.map D.int).length ≤ sizeLine then M.ok (D.lst (y.map D.int ++ z.map D.int)) else .stk) = _
  rw [List.length_map, List.length_map, if_pos (Nat.le_of_lt (sz_big (by omega))), ← List.map_append]
  rfl
theorem toM_of' {X S : Type} {c : Ctl X S} (h : RetIs c (· = .bl true)) : c.toM = .ok (.bl true) := by
  obtain ⟨d, rfl, rfl⟩ := h
  rfl
theorem law_k11_true (ns : List Int) (hn : ns.length ≤ 63) (_ : ∀ z ∈ ns, Builtin.Int.intBits z ≤ 1048576) : m_law_k11 [.scr ns] = .ok (.bl true) := by
  show (c_law_k11 (.scr ns)).toM = _
  unfold c_law_k11
  obtain ⟨l, hl, _⟩ := pool_ok ns hn
  rw [mlist_cons, mlist_nil, bind_ok, b1_ok, hl, bindC_ok]
  obtain ⟨n, hp, h3, h8⟩ := posts_ok l
  rw [hp, bindC_ok]
  obtain ⟨t, T, e1⟩ := start_ok l 12 n h3 h8
  rw [show (D.int 12) = .int ((12 : Nat) : Int) from rfl, e1, bindC_ok, word_ok T, bindC_ok]
  obtain ⟨p, ep, P⟩ := named_ok l 4 n n (Nat.le_refl _) h8
  have U := T.ren P h3 h8
  rw [c4 (m := m_l_named), show m_l_named [intsD l, .int 4, .int n, .int n] = _ from ep, bindC_ok, make_ok T, bindC_ok, list_nats, bindC_ok]
  rw [show methM 1 "renamed" m_Table_renamed (.ok (tabD n t)) (mlist [.ok (natsL p)]) = m_Table_renamed [tabD n t, natsL p] from rfl, renamed_ok T P, bindC_ok]
  have q1 : ∀ w : List Nat, pyNe (strD w) (strD w) = .ok (.bl false) := fun w => by rw [ne_strD]; simp
  have q2 : ∀ w : List Nat, pyEq (strD w) (strD w) = .ok (.bl true) := fun w => by rw [eq_strD]; simp
  have q3 : ∀ z : List Int, pyNe (intsD z) (intsD z) = .ok (.bl false) := fun z => by rw [ne_ints.1]; simp
  have q4 : ∀ z : List Int, pyEq (intsD z) (intsD z) = .ok (.bl true) := fun z => by rw [ne_ints.2]; simp
  have et : b1 m_l_taken (mlist [.ok (.dct (turnsK n t)), .ok (.int n), .ok (natsL p)]) = .ok (strD (lw n (ren t p))) := by
    rw [mlist_cons, mlist_cons, mlist_cons, mlist_nil, bind_ok, bind_ok, bind_ok, b1_ok, taken_ok T P]
  rw [b1_ok, fld_letters, et, b2_ok, q1, b1_ok, isB_bl, orM_ok, if_neg (by decide), b1_ok, fld_posts, b2_ok, ne_f rfl, b1_ok, isB_bl, orM_ok, if_neg (by decide), b2_ok, natsL_ints, q3, b1_ok, isB_bl, bindC_ok, if_neg (by decide), ← natsL_ints]
  have eb : lcM (b1 pyRange1 (mlist [.ok (.int n)])) (fun v10_k => elM (.ok true) (indexM (.ok (natsL p)) (.ok v10_k))) = .ok (natsL (bk n p)) := by
    rw [lcM_ok (range_n (by omega)) (compR (fun j => [D.int (p.idxOf j : Nat)]) fun j hj => elM_t (index_nats ((named_perm P).mem_iff.mpr (List.mem_range.mpr hj)))) ?_]
    · unfold natsL natsD bk
      rw [List.map_map, List.map_eq_flatMap]
      rfl
    · have := len_flat (g := fun j : Nat => [D.int (p.idxOf j : Nat)]) (k := 1) (l := List.range n) fun x _ => by simp
      rw [List.length_range] at this
      omega
  rw [eb, bindC_ok]
  rw [show methM 1 "renamed" m_Table_renamed (.ok (tabD n (ren t p))) (mlist [.ok (natsL (bk n p))]) = m_Table_renamed [tabD n (ren t p), natsL (bk n p)] from rfl, renamed_ok U (bk_named P), b2_ok]
  have ew : lw n (ren (ren t p) (bk n p)) = lw n t := lw_congr fun a b c h1 h2 h4 => by
    have B := bk_named P
    rw [ren_at U.al B (by omega) (by omega) h4 (by omega) (by omega) (by omega), ren_at T.al P (B.below (by omega)) (B.below (by omega)) (B.below h4) (B.inj (by omega) (by omega) (by omega)) (B.inj (by omega) h4 (by omega)) (B.inj (by omega) h4 (by omega)), nm_bk P (by omega), nm_bk P (by omega), nm_bk P h4]
  rw [eq_tab, ew]
  simp only [decide_true, Bool.and_self]
  rw [b1_ok, isB_bl, notM_ok, orM_ok, Bool.not_true, if_neg (by decide), b1_ok, fld_letters, b2_ok, q1, b1_ok, isB_bl, bindC_ok, if_neg (by decide)]
  -- the changed list
  obtain ⟨s, es, hs⟩ := draw_n l 1 n (by omega)
  obtain ⟨u, eu, hu⟩ := draw_n l 2 3 (by decide)
  obtain ⟨v, ev, hv⟩ := draw_n l 3 3 (by decide)
  have es : m_l_draw [intsD l, .int 1, .int n] = .ok (.int s) := es
  have eu : m_l_draw [intsD l, .int 2, .int 3] = .ok (.int u) := eu
  have ev : m_l_draw [intsD l, .int 3, .int 3] = .ok (.int v) := ev
  have plen : p.length = n := P.len
  rw [b1_draw, es, bindC_ok, bindC_ok, b2_ok, sub_ii]
  obtain ⟨j, hj, hjs, ej⟩ := ix_before (p := p) (s := s) (by omega) (by omega)
  rw [b2_ok, ej, b1_ok (f := pyNeg), neg_i, c3 (m := mkLst), lst_ok (by simp), b1_draw, eu, b2_ok]
  obtain ⟨d, ed, hd⟩ := lst3_ix (a := .int (-1)) (b := .int n) (c := .int p[j]) hu
  rw [ed]
  obtain ⟨z, ez, hz⟩ : ∃ z : List Int, setM (natsL p) (.ok d) (.ok (.int s)) = .ok (intsD z) ∧ ¬ z.Perm (rgI n) := by
    have hs' : s < (toI p).length := by rw [List.length_map]; omega
    rcases hd with ⟨_, rfl⟩ | ⟨_, rfl⟩ | ⟨_, rfl⟩
    · exact ⟨_, by rw [natsL_ints, set_ints hs'], np_mem (x := -1) (List.mem_set hs' _) (by omega)⟩
    · exact ⟨_, by rw [natsL_ints, set_ints hs'], np_mem (x := n) (List.mem_set hs' _) (by omega)⟩
    · refine ⟨_, by rw [natsL_ints, set_ints hs'], np_dup (i := s) (j := j) (by rw [List.length_set]; exact hs') (by rw [List.length_set, List.length_map]; exact hj) (Ne.symm hjs) ?_⟩
      rw [List.getElem_set_self, List.getElem_set_ne (Ne.symm hjs), List.getElem_map]
  rw [ez, bindC_ok]
  refine toM_of' (NxIs.ret (P := fun d => ∃ z : List Int, d = intsD z ∧ ¬ z.Perm (rgI n)) ?_ ?_)
  · rw [b1_draw, ev, b2_ok, eq_ii, b1_ok, isB_bl, bindC_ok]
    by_cases hv1 : (v : Int) = 1
    · rw [if_pos (decide_eq_true hv1)]
      have l0 : 0 < p.length := by omega
      have a1 : pyAdd (natsL p) (.lst [.int n]) = .ok (intsD (toI p ++ [(n : Int)])) := by
        rw [natsL_ints]
        exact add_ints (z := [(n : Int)]) (by rw [List.length_map]; simp; omega)
      have a2 : pyAdd (natsL p) (.lst [.int p[0]]) = .ok (intsD (toI p ++ [(p[0] : Int)])) := by
        rw [natsL_ints]
        exact add_ints (z := [(p[0] : Int)]) (by rw [List.length_map]; simp; omega)
      have a3 : slM (.ok (natsL p)) (.ok none) (b1 someI (.ok (.int (-1)))) = .ok (intsD ((toI p).take ((toI p).length - 1))) := by
        rw [natsL_ints]
        exact cut_last (by rw [List.length_map]; exact l0)
      rw [a3, b2_ok, show pyIx (natsL p) (.int 0) = .ok (.int p[0]) from ix_nats l0]
      rw [show b1 mkLst (mlist [.ok (.int n)]) = .ok (.lst [.int n]) from by rw [c1, lst_ok (by simp)], show b1 mkLst (mlist [.ok (.int p[0])]) = .ok (.lst [.int p[0]]) from by rw [c1, lst_ok (by simp)], b2_ok, b2_ok, a1, a2, c3 (m := mkLst), lst_ok (by simp), b2_ok]
      obtain ⟨d, ed, hd⟩ := lst3_ix (a := intsD ((toI p).take ((toI p).length - 1))) (b := intsD (toI p ++ [(n : Int)])) (c := intsD (toI p ++ [(p[0] : Int)])) hu
      rw [ed, bindC_ok]
      rcases hd with ⟨_, rfl⟩ | ⟨_, rfl⟩ | ⟨_, rfl⟩
      · exact .mk ⟨_, rfl, np_len (by rw [List.length_take, List.length_map]; omega)⟩
      · exact .mk ⟨_, rfl, np_len (by rw [List.length_append, List.length_map, List.length_singleton]; omega)⟩
      · exact .mk ⟨_, rfl, np_len (by rw [List.length_append, List.length_map, List.length_singleton]; omega)⟩
    · rw [if_neg (by simpa using hv1)]
      exact .mk ⟨z, rfl, hz⟩
  · rintro d ⟨y, rfl, hy⟩
    rw [show b1 pyList (mlist [.ok (intsD y)]) = .ok (intsD y) from by rw [c1]; rfl, bindC_ok, c2 (m := m_l_refused_8fa), refused_ren hy h8, b2_ok, q4, b2_ok, q2]
    exact .mk rfl
end Mir
namespace Mir
open PySem PySem.Spec L2

/-! ### text * int -/
def repS (x : Str) (n : Nat) : Str := ⟨(List.replicate n x.cps).foldl (· ++ ·) #[]⟩
def pyMulT : D → D → M D
  | .str x, .int n => if 2 ≤ n ∧ n ≤ 1000 ∧ 0 < x.length ∧ x.length ≤ 1000 ∧ (repS x n.toNat).length ≤ sizeLine then .ok (.str (repS x n.toNat)) else .stk
  | _, _ => .stk
def rMulT : R2 := fun x y H Q => ∃ z n, x = .str z ∧ y = .int n ∧ (2 ≤ n ∧ n ≤ 1000 ∧ 0 < z.length ∧ z.length ≤ 1000 ∧ (repS z n.toNat).length ≤ sizeLine) ∧ Q (.str (repS z n.toNat)) H
theorem op_mulT {X : Cx} : OpR X (binaryOp .Mult) rMulT := by
  intro pins s σ H x y v u Q I rx ry h
  obtain ⟨z, n, rfl, rfl, ⟨h1, h2, h3, h4, h5⟩, q⟩ := h
  obtain ⟨t, rfl⟩ := rx
  obtain ⟨t', rfl⟩ := ry
  have e1 : ¬ n < 1 := by omega
  have e2 : (n == 1 || z.length == 0) = false := by
    rw [Bool.or_eq_false_iff]
    exact ⟨beq_eq_false_iff_ne.mpr (by omega), beq_eq_false_iff_ne.mpr (by omega)⟩
  refine PySem.P.mul_str ?_ (fun _ _ => ?_) (fun _ _ => ?_) ?_
  · rw [Bool.or_eq_false_iff]
    exact ⟨decide_eq_false (by omega), decide_eq_false (by omega)⟩
  · have k : (9223372036854775 : Int) ≤ (2 ^ 63 - 1) / n := by
      rw [Int.le_ediv_iff_mul_le (by omega)]
      omega
    omega
  · show decide (z.length * n.toNat > sizeLine) = false
    rw [decide_eq_false]
    have : z.length * n.toNat ≤ 1000 * 1000 := Nat.mul_le_mul h4 (by omega)
    rw [sizeLine_eq]
    omega
  · rw [if_neg e1, if_neg (by rw [e2]; decide)]
    exact ⟨h5, .str (repS z n.toNat), H, I.tok _, ⟨_, rfl⟩, q⟩
section
variable {F : Fm} {Γ : Gam} {a b : Expr} {ma mb : M D} {pos : Pos}
theorem em_mulT (ha : EM F a Γ ma) (hb : EM F b Γ mb) : EM F (.BinOp a .Mult b pos) Γ (b2 pyMulT ma mb) := by
  refine em_op (r := rMulT) (fun X _ => op_mulT) (fun x y vx vy σ S H Q ex rx ry p => ?_) ha hb
  cases x with
  | str x =>
    cases y with
    | int n =>
      obtain ⟨hc, p⟩ := Po.gate (m := M.ok (D.str _)) p
      cases rx
      cases ry
      exact ⟨x, n, rfl, rfl, hc, p.ok ex _ (.str _)⟩
    | _ => exact False.elim p
  | _ => exact False.elim p
end
end Mir
namespace Mir
open PySem PySem.Spec L2
open PyProof.Rows (envOfC)

/-! ### C.m(e, ..), m a static method of the class C -/
structure StaK (G : GG) (k : Nat) (x n : Str) (m : List D → M D) : Prop where
  ex : ∃ (C p f : Addr) (mc : Value) (rest : List Value) (fd : FuncData) (ps : List Str) (j : Nat), j ≤ k ∧ FnOk G.P G.w G.K G.mg G.base (L2.CX G.P G.w) j f fd ps (spM G m) ∧ G.mg x = some (.ref C) ∧ ClX.CRead G.K C mc ∧
    PySem.W.findCls G.K (.ref C) mc n = some (.get (.builtin "staticmethod.__get__") (.ref p) .none (.ref C)) ∧ PySem.W.recIn G.K p "staticmethod" = some (.ref f :: rest) ∧ PySem.W.keepIn G.K (.ref f) = true ∧ Binds G.K fd ps []
  db : (x == ("__debug__" : Str)) = false
theorem StaK.mono {G : GG} {j k : Nat} {x n : Str} {m : List D → M D} (h : StaK G j x n m) (l : j ≤ k) : StaK G k x n m := by
  obtain ⟨C, p, f, mc, rest, fd, ps, i, hi, r⟩ := h.ex
  exact ⟨⟨C, p, f, mc, rest, fd, ps, i, Nat.le_trans hi l, r⟩, h.db⟩
section
variable {F : Fm} {Γ : Gam} {e : Expr} {es : List Expr} {ml : M (List D)} {pos apos : Pos}
theorem em_static {x n : Str} {p1 : Pos} {pl : Cx → Sem Bool} {m : List D → M D} (K : StaK F.G F.k x n m) (hcm : F.cm = true) (hg : F.kd.lookup x = some .globalImplicit) (ha : AM F (e :: es) Γ ml)
    (he : ∀ X, F.Xs X → starEach (e :: es) X.env = (false, eval e X.env) :: starEach es X.env := by intros; rfl) (hpl : ∀ X, F.Xs X → (backTo pos (starEach es X.env)).any (·.1) = false := by intros; rfl)
    (ht : ∀ X, F.Xs X → eval (.Call (.Attribute (.Name x p1) n apos) (e :: es) [] pos) X.env = (do
      let ov ← eval (.Name x p1) X.env
      standAt apos.atName
      let (f, first) ← holding [ov] (getMethod ov n (pl X))
      callWith pos f first (backTo pos (starEach (e :: es) X.env)) (backToKw pos (keywordEach [] X.env))) := by intros; rfl) :
    EM F (.Call (.Attribute (.Name x p1) n apos) (e :: es) [] pos) Γ (b1 m ml) := by
  obtain ⟨t, q, g⟩ := ha
  refine ⟨tCallS (spM F.G m) (WE F.W) t, fun X hX => ⟨fun pins s σ H Q I h => ?_⟩, fun H0 σ S H Q hh po => ?_⟩
  · obtain ⟨C, p, f, mc, rest, fd, ps, j, hj, ok, hm, hr, hf, hrec, hk, hb⟩ := K.ex
    obtain ⟨h1, h2, h3, h4, h5, _⟩ := F.hX X hX
    rw [← h1, ← h2, ← h3, ← h4, ← h5] at ok
    rw [← h4] at hm
    rw [← h3] at hr hf hrec hk hb
    refine PySem.W.methodCall_KW (pl := pl X) (ld_glob I (F.gl X hX hg) hm ?_ K.db) (ht X hX)
    refine PySem.W.method_cls I.kIn hr.ga (PySem.W.cls_bind I.kIn hr.rd hf (wpAny_call (PySem.W.sm_get (s := { s with toks := s.toks + 1 }) I.kIn hrec (PySem.W.handed_on rfl ?_))))
    have I1 := I.tok (s.toks + 1)
    refine PySem.W.callWith_K (h₀ := X.base) I.ok.mod.kin hk (thn ((q X hX).run pos pins _ σ H _ I1 h) fun us s1 ⟨vs, H1, I2, r1, q1⟩ => ⟨I2.kIn, ?_⟩) (he X hX) (hpl X hX)
    exact call_atS ok hb ((F.hr hcm X hX).mono hj) I2.env0 (passAt (F.tk X hX) σ) I2 r1 q1
  · exact g H0 σ S H _ hh (Po.bind po |>.imp fun ds S1 H1 g1 k vs r => ⟨S1, ds, g1.sub, r, k⟩)
end
end Mir
namespace Mir
open PySem PySem.Spec L2
open PyProof.Rows (envOfC)
open RZ

/-! ### for x, y in zip(l, m), two lists or two tuples of one length -/
def zipD (xs ys : List D) : List D := (xs.zip ys).map fun p => .tup [p.1, p.2]
def pyZip : List D → M (List D)
  | [.lst xs, .lst ys] => if xs.length = ys.length then .ok (zipD xs ys) else .stk
  | [.tup xs, .tup ys] => if xs.length = ys.length then .ok (zipD xs ys) else .stk
  | _ => .stk
theorem zipD_len {xs ys : List D} (h : xs.length = ys.length) : (zipD xs ys).length = xs.length := by
  unfold zipD
  rw [List.length_map, List.length_zip, ← h, Nat.min_self]
theorem zipD_get {xs ys : List D} {i : Nat} {x : D} (h : (zipD xs ys)[i]? = some x) : ∃ a b, xs[i]? = some a ∧ ys[i]? = some b ∧ x = .tup [a, b] := by
  unfold zipD at h
  rw [List.getElem?_map] at h
  cases q : (xs.zip ys)[i]? with
  | none => rw [q] at h; cases h
  | some p =>
    rw [q] at h
    obtain ⟨a, b⟩ := p
    have z := List.getElem?_zip_eq_some.mp q
    exact ⟨a, b, z.1, z.2, (Option.some.inj h).symm⟩
section
variable {F : Fm} {Γ : Gam} {a b : Expr} {pos : Pos} {G : GG} {S : Hp}
theorem it_zip {p q : Addr} {vs ws : List V} {ds es : List D} (h : SqL G.K S p vs) (r : Reps G S vs ds) (k : SqL G.K S q ws) (t : Reps G S ws es) (hl : ds.length = es.length) : ItSem G (Itz G.K p q) S (zipD ds es) := fun S' H' e1 e2 => by
  have h' := ex_l e2 (ex_l e1 h)
  have k' := ex_l e2 (ex_l e1 k)
  refine ⟨⟨vs, ws, h', k', .inl (by rw [r.length, zipD_len hl]; exact Nat.le_refl _)⟩, fun i x hx => ?_⟩
  obtain ⟨d, e, hd, he, rfl⟩ := zipD_get hx
  obtain ⟨v, hv, rv⟩ := r.get hd
  obtain ⟨w, hw, rw'⟩ := t.get he
  refine ⟨⟨vs, ws, v, w, h', k', hv, hw⟩, fun x H'' y => ?_⟩
  obtain ⟨T, v1, w1, rfl, hT, rfl, y1, y2⟩ := y
  obtain rfl : v = v1 := Option.some.inj (hv.symm.trans (y1 vs h'))
  obtain rfl : w = w1 := Option.some.inj (hw.symm.trans (y2 ws k'))
  have u := ex_upd (o := HO.tup [v, w]) (sub_none e2 hT)
  exact ⟨_, Grow.new (o := HO.tup [v, w]) e2 hT, .tup upd_same (.cons ((rv.mono e1).mono u) (.cons ((rw'.mono e1).mono u) .nil))⟩
theorem it_zipT {p q : Addr} {vs ws : List V} {ds es : List D} (h : SqT G.K S p vs) (r : Reps G S vs ds) (k : SqT G.K S q ws) (t : Reps G S ws es) (hl : ds.length = es.length) : ItSem G (ItzT G.K p q) S (zipD ds es) := fun S' H' e1 e2 => by
  have h' := ex_t e2 (ex_t e1 h)
  have k' := ex_t e2 (ex_t e1 k)
  refine ⟨⟨vs, ws, h', k', .inl (by rw [r.length, zipD_len hl]; exact Nat.le_refl _)⟩, fun i x hx => ?_⟩
  obtain ⟨d, e, hd, he, rfl⟩ := zipD_get hx
  obtain ⟨v, hv, rv⟩ := r.get hd
  obtain ⟨w, hw, rw'⟩ := t.get he
  refine ⟨⟨vs, ws, v, w, h', k', hv, hw⟩, fun x H'' y => ?_⟩
  obtain ⟨T, v1, w1, rfl, hT, rfl, y1, y2⟩ := y
  obtain rfl : v = v1 := Option.some.inj (hv.symm.trans (y1 vs h'))
  obtain rfl : w = w1 := Option.some.inj (hw.symm.trans (y2 ws k'))
  have u := ex_upd (o := HO.tup [v, w]) (sub_none e2 hT)
  exact ⟨_, Grow.new (o := HO.tup [v, w]) e2 hT, .tup upd_same (.cons ((rv.mono e1).mono u) (.cons ((rw'.mono e1).mono u) .nil))⟩
theorem im_zip {p tpos : Pos} {elts : List Expr} {kk : Nat} {ml : M (List D)} (hg : F.kd.lookup ("zip" : Str) = some NameKind.globalImplicit) (hm : F.G.mg "zip" = none) (ha : AM F [a, b] Γ ml)
    (hs : ∀ X, F.Xs X → starEach [a, b] X.env = (false, eval a X.env) :: starEach [b] X.env := by intros; rfl) (hpl : ∀ X, F.Xs X → (backTo pos (starEach [b] X.env)).any (·.1) = false := by intros; rfl) :
    IM F (.Tuple elts kk tpos) (.Call (.Name "zip" p) [a, b] [] pos) Γ (b1 pyZip ml) := by
  obtain ⟨t, q, f⟩ := ha
  refine ⟨fun σ H R => iZipA F.G.K t σ H R, fun X hX => ?_, fun H0 σ S H R hh po => ?_⟩
  · have h := pi_zipA (elts := elts) (kk := kk) (tpos := tpos) (p := p) (pos := pos) (F.gl X hX hg) (by rw [(F.hX X hX).2.2.2.1]; exact hm) (q X hX) (hs X hX) (hpl X hX)
    rw [F.hK X hX] at h
    exact h
  · refine f H0 σ S H _ hh ((Po.bind po).imp fun ds S1 H1 g k vs r => ?_)
    match ds, r, k with
    | [.lst xs, .lst ys], .cons (.lst h1 r1) (.cons (.lst h2 r2) .nil), k =>
      obtain ⟨hl, k⟩ := Po.gate (m := M.ok (zipD xs ys)) k
      exact ⟨_, _, _, _, rfl, .inl ⟨SqL.of (g.sub _ _ h1), SqL.of (g.sub _ _ h2), k.ok g.sub _ (it_zip (SqL.of h1) r1 (SqL.of h2) r2 hl)⟩⟩
    | [.tup xs, .tup ys], .cons (.tup h1 r1) (.cons (.tup h2 r2) .nil), k =>
      obtain ⟨hl, k⟩ := Po.gate (m := M.ok (zipD xs ys)) k
      exact ⟨_, _, _, _, rfl, .inr ⟨SqT.of (g.sub _ _ h1), SqT.of (g.sub _ _ h2), k.ok g.sub _ (it_zipT (SqT.of h1) r1 (SqT.of h2) r2 hl)⟩⟩
end
end Mir
namespace Mir
open PySem PyProof.Rows Srt SrtO

/-! ### sorted(list of tuples of d ints in [0, B)) -/
section
variable {prog : Program} {w : World} {A : Around} {s : Shared}
theorem swo_rank (r : Value → Int) : Swo fun v u => decide (r v < r u) := by
  refine ⟨fun x y h => ?_, fun x y z h1 h2 => ?_⟩
  · have := of_decide_eq_true h
    exact decide_eq_false (by omega)
  · have a := of_decide_eq_false h1
    have b := of_decide_eq_false h2
    exact decide_eq_false (by omega)
theorem tups_sortable {a : Addr} {vs : List Value} {d : Nat} {B : Int} (hd : 1 ≤ d) (h0 : 0 < vs.length) (x : TS.TupsOk s.heap d B vs) (r : Value → Int) (hr : ∀ v, v ∈ vs → ∀ ns, TS.TupInts s.heap v ns → r v = TS.code B ns) (ha : ∀ o, s.heap.get? a = some o → o.cls ≠ .type "tuple") :
    SortableO prog w A s a vs fun v u => decide (r v < r u) := by
  intro h' keep
  have kp : ∀ b o, s.heap.get? b = some o → o.cls = .type "tuple" → h'.get? b = some o := fun b o e c => keep b o (fun z => by subst z; exact ha o e c) e
  have x' : TS.TupsOk h' d B vs := x.keeps kp
  obtain ⟨fs, k, hl, hi⟩ := TS.firsts_of hd vs x'
  refine ⟨tuples' true, fun Q E hq => ?_, fun p q hp hq => ?_⟩
  · refine PySem.W.kat_kind (T := .type "int") k (by omega) (fun f hm => ?_) (by rfl) ?_
    · obtain ⟨n, t, rfl⟩ := hi f hm
      exact PySem.W.Looks.now
    · have e : (Value.type "int" != Value.type "tuple") = true := by first | decide +kernel | rfl | decide
      rw [e]
      exact hq
  · obtain ⟨ns, tp0, lp, bp⟩ := x _ hp
    obtain ⟨ms, tq0, lq, bq⟩ := x _ hq
    have ep := hr _ hp _ tp0
    have eq2 := hr _ hq _ tq0
    have tp := tp0.keeps kp
    have tq := tq0.keeps kp
    show wpAny (model prog w) A (keyLt' (tuples' true) p.1 q.1) (fun b s' => s' = _ ∧ b = decide (r p.1 < r q.1)) (fun _ _ => False) _
    rw [ep, eq2]
    obtain ⟨a1, xs, e1, ⟨o, ho, hc, n, hdt⟩, i⟩ := tp
    obtain ⟨a2, ys, e2, ⟨o', ho', hc', n', hdt'⟩, i'⟩ := tq
    rw [e1, e2]
    refine PySem.W.kat_lt ho hdt ho' hdt' ?_
    have sz : decide (xs.size < ys.size) = false := by
      have l1 := i.length
      have l2 := i'.length
      rw [Array.length_toList] at l1 l2
      exact decide_eq_false (by omega)
    rw [sz]
    exact TS.lex_ints 0 i i' (by omega) bp bq ⟨rfl, rfl⟩
/-- sorted(l) of such a list -/
theorem sorted_tups {l : Addr} {vs : List Value} {d : Nat} {B : Int} {E : Value → Shared → Prop} {Q : Value → Shared → Prop} (hd : 1 ≤ d) (hl : s.heap.IsList l vs.toArray) (hz : vs.length ≤ sizeLine) (x : TS.TupsOk s.heap d B vs) (r : Value → Int) (hr : ∀ v, v ∈ vs → ∀ ns, TS.TupInts s.heap v ns → r v = TS.code B ns)
    (hi : ∀ (h : Heap), (∀ b o, s.heap.get? b = some o → h.get? b = some o) → ∀ v, v ∈ vs → ∀ ns, TS.TupInts h v ns → TS.TupInts s.heap v ns)
    (h : ∀ (h' : Heap) (p : Addr) (out : List Value), out.Pairwise (fun v u => decide (r u < r v) = false) → out.Perm vs → (∀ b o, s.heap.get? b = some o → h'.get? b = some o) → s.heap.objs.size ≤ p → (∃ n, h'.get? p = some (seqObj "list" out.toArray n)) → Q (.ref p) { s with heap := h' }) :
    wpAny (model prog w) A (call (.builtin "sorted") [.ref l]) Q E s := by
  refine sorted_ord (swo_rank r) hl hz (fun h2 h₁ a ha kk => ?_) fun out hs hb => ?_
  · refine tups_sortable (s := { s with heap := h₁ }) hd (by omega) (x.keeps fun b o e _ => (kk b o e).2) r (fun v hv ns t => hr v hv ns (hi h₁ (fun b o e => (kk b o e).2) v hv ns t)) fun o e => ?_
    have e' : some o = some (seqObj "list" vs.toArray 0) := e.symm.trans ha
    cases e'
    intro c
    exact absurd (Value.type.inj c) (by decide)
  · exact h _ _ out hs hb.perm (fun b o e => sortedAll_old e) (Nat.le_succ _) (sortedAll_at s.heap vs out.toArray)
end
end Mir
namespace Mir
open PySem PySem.Spec L2
open PyProof.Rows (envOfC)

/-! ### sorted(list of tuples of ints) in the layer -/
def rSortedT (K : PySem.W.Frag) : List V → Hp → VK → Prop := fun vs H Q => ∃ (a : Addr) (xs : List V) (f : V → List Int) (d : Nat) (B : Int), vs = [V.ref a] ∧ SqL K H a xs ∧ 1 ≤ d ∧ xs ≠ [] ∧ (∀ x ∈ xs, ∃ t, x = V.ref t ∧ H t = some (.tup ((f x).map V.int)) ∧ (f x).length = d ∧ TS.Bd B (f x)) ∧
  ∀ ys p, ys.Perm xs → ys.Pairwise (fun x y => TS.code B (f x) ≤ TS.code B (f y)) → H p = none → Q (.ref p) (upd H p (.lst ys))
theorem cr_sortedT {X : Cx} : CallR X (.builtin "sorted") (rSortedT X.K) := by
  intro pins s σ H vs us Q I r h
  obtain ⟨a, xs, f, d, B, rfl, hs, hd1, hne, hx, q⟩ := h
  obtain ⟨its, rv, hl, hz⟩ := I.list hs
  obtain ⟨u, rfl, ru⟩ := vals1 r
  obtain rfl : u = Value.ref a := ru
  obtain ⟨e1, e2⟩ := refs_back rv fun x m => by
    obtain ⟨t, e, _⟩ := hx x m
    exact ⟨t, e⟩
  have ht : ∀ v, v ∈ its → TS.TupInts s.heap v (f (backV v)) ∧ (f (backV v)).length = d ∧ TS.Bd B (f (backV v)) := fun v hv => by
    obtain ⟨t, rfl⟩ := e2 v hv
    have hm : V.ref t ∈ xs := by rw [e1]; exact List.mem_map.mpr ⟨_, hv, rfl⟩
    obtain ⟨t', e, ht, l, b⟩ := hx _ hm
    cases e
    obtain ⟨_, its2, r2, o, ho, hc, n, hd⟩ := I.hok _ _ ht
    exact ⟨⟨t, its2.toArray, rfl, ⟨o, ho, hc, n, hd⟩, (by have := r2.ints; simpa using this : PyProof.Rows.IntsAre its2.toArray.toList (f (V.ref t)))⟩, l, b⟩
  have ok : TS.TupsOk s.heap d B its := fun v hv => ⟨_, (ht v hv).1, (ht v hv).2⟩
  have hr : ∀ v, v ∈ its → ∀ ns, TS.TupInts s.heap v ns → TS.code B (f (backV v)) = TS.code B ns := fun v hv ns t => by rw [← (ht v hv).1.ints, t.ints]
  have h0 : 0 < its.length := by
    rw [← rv.length]
    exact List.length_pos_iff.mpr hne
  refine sorted_tups (d := d) (B := B) hd1 hl.isList (by rw [← rv.length]; exact hz) ok (fun v => TS.code B (f (backV v))) hr (fun h kp v hv ns t => ?_) fun h' p out so pm kp hp hn => ?_
  · have t0 := (ht v hv).1
    have t1 := t0.keeps (fun b o e _ => kp b o e)
    rw [show ns = f (backV v) from t.ints.symm.trans t1.ints]
    exact t0
  · have h3 : ∀ u ∈ out, ∃ a, u = Value.ref a := fun u hu => e2 u (pm.mem_iff.mp hu)
    obtain ⟨n, hn⟩ := hn
    have hp2 : (out.map backV).Perm xs := by
      rw [e1]
      exact pm.map backV
    refine ⟨.ref p, upd H p (.lst (out.map backV)), I.laid (t' := s.toks) kp hp ⟨?_, out, n, vals_back h3, hn⟩, rfl, q _ p hp2 (List.pairwise_map.mpr (so.imp fun h => ?_)) (I.hok.fresh hp)⟩
    · rw [hp2.length_eq]
      exact hz
    · have := of_decide_eq_false h
      omega
def tupI : D → Option (List Int)
  | .tup xs => intsOf xs
  | _ => none
def tupsI : List D → Option (List (List Int))
  | [] => some []
  | d :: ds => match tupI d with
    | none => none
    | some l => (tupsI ds).map (l :: ·)
def tupD (l : List Int) : D := .tup (l.map D.int)
def cT3 : Int := 65536
def insT (x : List Int) : List (List Int) → List (List Int)
  | [] => [x]
  | y :: l => if TS.code cT3 x ≤ TS.code cT3 y then x :: y :: l else y :: insT x l
def isortT : List (List Int) → List (List Int)
  | [] => []
  | x :: l => insT x (isortT l)
theorem insT_perm (x : List Int) : ∀ l : List (List Int), (insT x l).Perm (x :: l)
  | [] => .refl _
  | y :: l => by
    unfold insT
    split
    · exact .refl _
    · exact ((insT_perm x l).cons y).trans (.swap x y l)
theorem isortT_perm : ∀ l : List (List Int), (isortT l).Perm l
  | [] => .refl _
  | x :: l => (insT_perm x _).trans ((isortT_perm l).cons x)
abbrev leT (x y : List Int) : Prop := TS.code cT3 x ≤ TS.code cT3 y
theorem insT_sorted (x : List Int) : ∀ l : List (List Int), l.Pairwise leT → (insT x l).Pairwise leT
  | [], _ => by simp [insT]
  | y :: l, h => by
    unfold insT
    obtain ⟨h1, h2⟩ := List.pairwise_cons.mp h
    split
    · rename_i hxy
      refine List.pairwise_cons.mpr ⟨fun z hz => ?_, h⟩
      rcases List.mem_cons.mp hz with rfl | hz
      · exact hxy
      · exact Int.le_trans hxy (h1 z hz)
    · rename_i hxy
      refine List.pairwise_cons.mpr ⟨fun z hz => ?_, insT_sorted x l h2⟩
      rcases List.mem_cons.mp ((insT_perm x l).mem_iff.mp hz) with rfl | hz
      · show TS.code cT3 y ≤ TS.code cT3 z
        omega
      · exact h1 z hz
theorem isortT_sorted : ∀ l : List (List Int), (isortT l).Pairwise leT
  | [] => .nil
  | x :: l => insT_sorted x _ (isortT_sorted l)
theorem code_inj {B : Int} : ∀ {a b : List Int}, a.length = b.length → TS.Bd B a → TS.Bd B b → TS.code B a = TS.code B b → a = b
  | [], [], _, _, _, _ => rfl
  | x :: a, y :: b, hl, h1, h2, e => by
    have hl' : a.length = b.length := by simpa using hl
    rcases Int.lt_trichotomy x y with z | z | z
    · have := TS.code_lt hl' h1.tail h2.tail z
      omega
    · subst z
      have e' : TS.code B a = TS.code B b := by
        have q1 := TS.code_same (B := B) (d := x) hl'
        have q2 := TS.code_same (B := B) (d := x) hl'.symm
        omega
      rw [code_inj hl' h1.tail h2.tail e']
    · have := TS.code_lt hl'.symm h2.tail h1.tail z
      omega
theorem sortedT_uniq {d : Nat} {a b : List (List Int)} (p : a.Perm b) (hb : ∀ l, l ∈ b → l.length = d ∧ TS.Bd cT3 l) (h1 : a.Pairwise leT) (h2 : b.Pairwise leT) : a = b :=
  p.eq_of_pairwise (le := fun x y : List Int => decide (leT x y)) (fun x y hx hy h k => by
    have h := of_decide_eq_true h
    have k := of_decide_eq_true k
    have x1 := hb x (p.mem_iff.mp hx)
    have y1 := hb y hy
    exact code_inj (x1.1.trans y1.1.symm) x1.2 y1.2 (Int.le_antisymm h k)) (h1.imp fun h => decide_eq_true h) (h2.imp fun h => decide_eq_true h)
def bdT (l : List Int) : Bool := l.all fun i => decide (0 ≤ i) && decide (i < cT3)
theorem bdT_bd {l : List Int} (h : bdT l = true) : TS.Bd cT3 l := fun m hm => by
  have := List.all_eq_true.mp h m hm
  simp only [Bool.and_eq_true, decide_eq_true_eq] at this
  exact this
def okT (d : Nat) (L : List (List Int)) : Bool := L.all fun l => decide (l.length = d) && bdT l
def pySortedT (d : Nat) : List D → M D
  | [.lst ds] => (ofOpt (tupsI ds)).bind fun L => if 1 ≤ d ∧ okT d L = true then .ok (.lst ((isortT L).map tupD)) else .stk
  | _ => .stk
theorem reps_tupsI {G : GG} {S : Hp} : ∀ {ds : List D} {vs : List V} {L : List (List Int)}, Reps G S vs ds → tupsI ds = some L → ds = L.map tupD ∧ ∀ v ∈ vs, ∃ t l, v = V.ref t ∧ l ∈ L ∧ S t = some (.tup (l.map V.int))
  | [], _, _, .nil, e => by
    cases e
    exact ⟨rfl, fun v hv => by cases hv⟩
  | d :: ds, _, _, .cons h r, e => by
    unfold tupsI at e
    cases q : tupI d with
    | none => rw [q] at e; cases e
    | some l =>
      rw [q] at e
      simp only at e
      cases q2 : tupsI ds with
      | none => rw [q2] at e; cases e
      | some L =>
        rw [q2] at e
        cases e
        obtain ⟨e1, e2⟩ := reps_tupsI r q2
        cases d with
        | tup xs =>
          cases h with
          | @tup p vs' _ h r' =>
            have hv := reps_intsOf r' q
            subst hv
            refine ⟨?_, fun v hv => ?_⟩
            · rw [e1]
              have : D.tup xs = tupD l := by
                unfold tupD
                congr 1
                have : ∀ {xs : List D} {l : List Int}, intsOf xs = some l → xs = l.map D.int := by
                  intro xs
                  induction xs with
                  | nil => intro l e; cases e; rfl
                  | cons x xs ih =>
                    intro l e
                    cases x with
                    | int x =>
                      unfold intsOf at e
                      cases q : intsOf xs with
                      | none => rw [q] at e; cases e
                      | some zs =>
                        rw [q] at e
                        cases e
                        rw [ih q]
                        rfl
                    | _ => cases e
                exact this q
              rw [this]
              rfl
            · rcases List.mem_cons.mp hv with rfl | hv
              · exact ⟨p, l, rfl, List.mem_cons_self .., h⟩
              · obtain ⟨t, l', e, hm, ht⟩ := e2 v hv
                exact ⟨t, l', e, List.mem_cons_of_mem _ hm, ht⟩
        | _ => cases q
/-- the ints of a tuple at a place -/
def tfOf (S : Hp) (v : V) : List Int := match v with
  | .ref t => match S t with
    | some (.tup vs) => vs.map fun v => match v with | .int i => i | _ => 0
    | _ => []
  | _ => []
theorem tfOf_at {S : Hp} {t : Addr} {l : List Int} (h : S t = some (.tup (l.map V.int))) : tfOf S (.ref t) = l := by
  show (match S t with | some (.tup vs) => vs.map (fun v => match v with | .int i => i | _ => 0) | _ => []) = l
  rw [h]
  show (l.map V.int).map _ = l
  rw [List.map_map]
  exact List.map_id' l
theorem reps_of_tf {G : GG} {S : Hp} : ∀ {ys : List V}, (∀ y ∈ ys, ∃ (t : Addr) (l : List Int), y = V.ref t ∧ S t = some (.tup (l.map V.int))) → Reps G S ys ((ys.map (tfOf S)).map tupD)
  | [], _ => .nil
  | y :: ys, h => by
    obtain ⟨t, l, rfl, ht⟩ := h y (List.mem_cons_self ..)
    refine .cons ?_ (reps_of_tf fun z hz => h z (List.mem_cons_of_mem _ hz))
    rw [tfOf_at ht]
    exact .tup ht (reps_of_ints l)
theorem tf_map {G : GG} {S : Hp} : ∀ {vs : List V} {L : List (List Int)}, Reps G S vs (L.map tupD) → vs.map (tfOf S) = L
  | [], [], _ => rfl
  | v :: vs, l :: L, .cons h r => by
    show tfOf S v :: vs.map (tfOf S) = l :: L
    rw [tf_map r]
    congr 1
    unfold tupD at h
    cases h with
    | tup h r' =>
      have : ∀ {vs : List V} {l : List Int}, Reps G S vs (l.map D.int) → vs = l.map V.int := by
        intro vs l
        induction l generalizing vs with
        | nil => intro r; cases r; rfl
        | cons x l ih =>
          intro r
          cases r with
          | cons h r => cases h; rw [ih r]; rfl
      rw [this r'] at h
      exact tfOf_at h
section
variable {F : Fm} {Γ : Gam} {e : Expr} {es : List Expr} {pos : Pos}
def rSortedTI (K : PySem.W.Frag) : List V → Hp → VK → Prop := fun vs H Q => rSortedI K vs H Q ∨ rSortedT K vs H Q
theorem cr_sortedTI {X : Cx} : CallR X (.builtin "sorted") (rSortedTI X.K) := by
  intro pins s σ H vs us Q I r h
  rcases h with h | h
  · exact cr_sortedI pins s σ H vs us Q I r h
  · exact cr_sortedT pins s σ H vs us Q I r h
theorem cm_sortedT {d : Nat} : CM F (rSortedTI F.G.K) (pySortedT d) := by
  intro ds vs E S H Q ex r p
  match ds, r, p with
  | [.lst xs], r, p =>
    obtain ⟨v, rfl, h⟩ := reps1 r
    obtain ⟨L, hn, p1⟩ := Po.opt (o := tupsI xs) p
    obtain ⟨⟨hd, hok⟩, p2⟩ := Po.gate (m := M.ok (D.lst ((isortT L).map tupD))) p1
    cases h with
    | @lst a vs _ h r =>
      obtain ⟨e1, e2⟩ := reps_tupsI r hn
      subst e1
      have hL : ∀ l, l ∈ L → l.length = d ∧ TS.Bd cT3 l := fun l hl => by
        have := List.all_eq_true.mp hok l hl
        simp only [Bool.and_eq_true, decide_eq_true_eq] at this
        exact ⟨this.1, bdT_bd this.2⟩
      by_cases hne : vs = []
      · subst hne
        have : L = [] := by
          have := r.length
          rw [List.length_map] at this
          exact List.length_eq_zero_iff.mp this.symm
        subst this
        refine .inl ⟨_, [], rfl, SqL.of (ex _ _ h), fun ns' q pm so hq => ?_⟩
        rw [pm.eq_nil]
        exact ev_newL (G := F.G) ex (reps_of_ints []) p2 q hq
      · refine .inr ⟨a, vs, tfOf S, d, cT3, rfl, SqL.of (ex _ _ h), hd, hne, fun x hx => ?_, fun ys q pm so hq => ?_⟩
        · obtain ⟨t, l, rfl, hl, ht⟩ := e2 x hx
          refine ⟨t, rfl, ?_, ?_⟩
          · rw [tfOf_at ht]; exact ex _ _ ht
          · rw [tfOf_at ht]; exact hL l hl
        · have r2 : Reps F.G S ys ((ys.map (tfOf S)).map tupD) := reps_of_tf fun y hy => by
            obtain ⟨t, l, e, _, ht⟩ := e2 y (pm.mem_iff.mp hy)
            exact ⟨t, l, e, ht⟩
          have pm2 : (ys.map (tfOf S)).Perm L := by
            have := pm.map (tfOf S)
            rwa [tf_map r] at this
          have e3 : ys.map (tfOf S) = isortT L := sortedT_uniq (d := d) (pm2.trans (isortT_perm L).symm) (fun l hl => hL l ((isortT_perm L).mem_iff.mp hl)) (List.pairwise_map.mpr so) (isortT_sorted L)
          rw [e3] at r2
          exact ev_newL (G := F.G) ex r2 p2 q hq
theorem em_sortedT (d : Nat) {p : Pos} {ml : M (List D)} (hg : F.kd.lookup ("sorted" : Str) = some NameKind.globalImplicit) (hm : F.G.mg "sorted" = none) (ha : AM F (e :: es) Γ ml)
    (he : ∀ X, F.Xs X → starEach (e :: es) X.env = (false, eval e X.env) :: starEach es X.env := by intros; rfl) (hpl : ∀ X, F.Xs X → (backTo pos (starEach es X.env)).any (·.1) = false := by intros; rfl) : EM F (.Call (.Name "sorted" p) (e :: es) [] pos) Γ (b1 (pySortedT d) ml) :=
  em_callB (r := rSortedTI F.G.K) (fun X hX => by have h := cr_sortedTI (X := X); rw [F.hK X hX] at h; exact h) cm_sortedT hg hm (by decide +kernel) ha (by decide) (by decide) he hpl
end
theorem noNx_exnF {X S : Type} {c : Nat} {f : Str} {x0 : X} {ds : List D} : (exnF (S := S) c f x0 ds).noNx := by
  intro s h
  match ds, h with
  | [], h => cases h
  | [_], h => cases h
  | _ :: _ :: _, h => cases h
end Mir
namespace Mir
open PySem PySem.Spec L2

def c_area (p_first p_second p_third : D) : Ctl Unit Unit := M.bindC (b2 pyMul (b2 pySub (b2 pyIx (.ok p_second) (.ok (.int 0))) (b2 pyIx (.ok p_first) (.ok (.int 0)))) (b2 pySub (b2 pyIx (.ok p_third) (.ok (.int 1))) (b2 pyIx (.ok p_first) (.ok (.int 1))))) () fun v1_right => M.bindC (b2 pySub (.ok v1_right) (b2 pyMul (b2 pySub (b2 pyIx (.ok p_second) (.ok (.int 1))) (b2 pyIx (.ok p_first) (.ok (.int 1)))) (b2 pySub (b2 pyIx (.ok p_third) (.ok (.int 0))) (b2 pyIx (.ok p_first) (.ok (.int 0)))))) () Ctl.ret
def m_area : List D → M D := ar3 c_area
def c_Table_placed (p_places : D) : Ctl Unit Unit := M.bindC (notM (b1 isB (chM pyLe pyLe (.ok (.int 3)) (b1 pyLen (mlist [.ok p_places])) (.ok (.int 8))))) () fun c => if c = true then (.exn ⟨1, []⟩ ()) else M.bindC (lcM (b1 pyItems (b1 m_threes (mlist [b1 pyLen (mlist [.ok p_places])]))) (fun v2_t => un3 .stk v2_t fun v3_a v4_b v5_c => elM (.ok true) (b1 m_area (mlist [b2 pyIx (.ok p_places) (.ok v3_a), b2 pyIx (.ok p_places) (.ok v4_b), b2 pyIx (.ok p_places) (.ok v5_c)])))) () fun v1_areas => M.bindC (b1 (pySortedT 3) (mlist [lcM (b1 pyZip (mlist [b1 m_threes (mlist [b1 pyLen (mlist [.ok p_places])]), .ok v1_areas])) (fun v7_t => un2 .stk v7_t fun v8_three v9_size => elM (b1 isB (b2 pyEq (.ok v9_size) (.ok (.int 0)))) (.ok v8_three))])) () fun v6_flat => M.bindC (b1 pyTruth (.ok v6_flat)) () fun c => if c = true then (M.bindC (mlist [b2 pyIx (.ok v6_flat) (.ok (.int 0))]) () (exnF 2 "posts" ())) else M.bindC (b1 (mkO 1 m_Table___init) (mlist [b2s pyJoin (.ok (.str "")) (lcM (b1 pyItems (.ok v1_areas)) (fun v10_size => elM (.ok true) (ifM (b1 isB (b2 pyGt (.ok v10_size) (.ok (.int 0)))) (.ok (.str "L")) (.ok (.str "R")))))])) () Ctl.ret
def m_Table_placed : List D → M D := ar1 c_Table_placed
def c_l_wide (p_pool_here p_at p_wide_here : D) : Ctl Unit Unit := M.bindC (b2 pyAdd (b2 pyMul (b1 m_l_draw (mlist [.ok p_pool_here, .ok p_at, .ok (.int 1000000)])) (.ok (.int 1000000))) (b1 m_l_draw (mlist [.ok p_pool_here, b2 pyAdd (.ok p_at) (.ok (.int 1)), .ok (.int 1000000)]))) () fun v1_big => M.bindC (b2 pySub (b2 pyMod (b1 pyInt (mlist [b2 pyAdd (.ok v1_big) (b2 pyMul (.ok p_at) (.ok p_at))])) (.ok p_wide_here)) (b2 pyDiv (.ok p_wide_here) (.ok (.int 2)))) () Ctl.ret
def m_l_wide : List D → M D := ar3 c_l_wide
def c_l_flat (p_places : D) : Ctl Unit Unit := M.bindC (b1 pyRange1 (mlist [b1 pyLen (mlist [.ok p_places])])) () fun v9_ds => (forC (X := Unit) (S := Unit) (fun v2_a (v1_j : Unit) => M.bindC (b1 pyRange2 (mlist [b2 pyAdd (.ok v2_a) (.ok (.int 1)), b1 pyLen (mlist [.ok p_places])])) () fun v8_ds => (forC (X := Unit) (S := Unit) (fun v4_b (v3_j : Unit) => M.bindC (b1 pyRange2 (mlist [b2 pyAdd (.ok v4_b) (.ok (.int 1)), b1 pyLen (mlist [.ok p_places])])) () fun v7_ds => (forC (X := Unit) (S := Unit) (fun v6_c (v5_j : Unit) => M.bindC (b1 isB (b2 pyEq (b1 m_l_cross (mlist [b2 pyIx (.ok p_places) (.ok v2_a), b2 pyIx (.ok p_places) (.ok v4_b), b2 pyIx (.ok p_places) (.ok v6_c)])) (.ok (.int 0)))) () fun c => if c = true then (M.bindC (b1 mkTup (mlist [.ok v2_a, .ok v4_b, .ok v6_c])) () Ctl.ret) else .nx ()) v7_ds ()).bind fun (v5_j : Unit) => .nx ()) v8_ds ()).bind fun (v3_j : Unit) => .nx ()) v9_ds ()).bind fun (v1_j : Unit) => M.bindC (.ok .non) () Ctl.ret
def m_l_flat : List D → M D := ar1 c_l_flat
def c_l_expected (p_places : D) : Ctl Unit Unit := M.bindC (.ok (.str "")) () fun v1_letters => M.bindC (b1 pyRange1 (mlist [b1 pyLen (mlist [.ok p_places])])) () fun v11_ds => (forC (X := Unit) (S := D) (fun v3_c (v2_j : D) => M.bindC (b1 pyRange1 (mlist [.ok v3_c])) () fun v10_ds => (forC (X := Unit) (S := D) (fun v5_b (v4_j : D) => M.bindC (b1 pyRange1 (mlist [.ok v5_b])) () fun v9_ds => (forC (X := Unit) (S := D) (fun v7_a (v6_j : D) => M.bindC (b2 pyAdd (.ok v6_j) (b2 pyIx (b1 mkLst (mlist [.ok (.str "R"), .ok (.str "L")])) (b1 pyInt (mlist [b2 pyGt (b1 m_l_cross (mlist [b2 pyIx (.ok p_places) (.ok v7_a), b2 pyIx (.ok p_places) (.ok v5_b), b2 pyIx (.ok p_places) (.ok v3_c)])) (.ok (.int 0))])))) () fun v8_letters => .nx v8_letters) v9_ds v4_j).bind fun (v6_j : D) => .nx v6_j) v10_ds v2_j).bind fun (v4_j : D) => .nx v4_j) v11_ds v1_letters).bind fun (v2_j : D) => M.bindC (.ok v2_j) () Ctl.ret
def m_l_expected : List D → M D := ar1 c_l_expected
def c_law_k02 (p_script : D) : Ctl Unit Unit := M.bindC (b1 m_l_pool (mlist [.ok p_script])) () fun v1_pool_here => M.bindC (b2 pyAdd (.ok (.int 3)) (b2 pyMod (b2 pyAdd (b1 m_l_draw (mlist [.ok v1_pool_here, .ok (.int 0), .ok (.int 6)])) (.ok (.int 2))) (.ok (.int 6)))) () fun v2_many => (M.bindC (b1 isB (b2 pyEq (b1 m_l_draw (mlist [.ok v1_pool_here, .ok (.int 1), .ok (.int 5)])) (.ok (.int 1)))) () fun c => if c = true then (M.bindC (b2 pyIx (b1 mkLst (mlist [.ok (.int 0), .ok (.int 1), .ok (.int 2), .ok (.int 9)])) (b1 m_l_draw (mlist [.ok v1_pool_here, .ok (.int 2), .ok (.int 4)]))) () fun v4_many => .nx v4_many) else (.nx v2_many) : Ctl Unit D).bind fun (v3_j : D) => M.bindC (b2 pyIx (b1 mkLst (mlist [.ok (.int 40), .ok (.int 4), b2 pyAdd (b2 pyMul (.ok (.int 2)) (b2 pyPow (.ok (.int 10)) (.ok (.int 9)))) (.ok (.int 1))])) (b1 m_l_draw (mlist [.ok v1_pool_here, .ok (.int 3), .ok (.int 3)]))) () fun v5_wide_here => M.bindC (lcM (b1 pyRange1 (mlist [.ok v3_j])) (fun v7_k => elM (.ok true) (b1 mkTup (mlist [b1 m_l_wide (mlist [.ok v1_pool_here, b2 pyAdd (.ok (.int 4)) (b2 pyMul (.ok (.int 4)) (.ok v7_k)), .ok v5_wide_here]), b1 m_l_wide (mlist [.ok v1_pool_here, b2 pyAdd (.ok (.int 6)) (b2 pyMul (.ok (.int 4)) (.ok v7_k)), .ok v5_wide_here])])))) () fun v6_places => M.bindC (b1 pyList (mlist [.ok v6_places])) () fun v8_given => M.bindC (b1 m_l_flat (mlist [.ok v6_places])) () fun v9_flat_here => M.bindC (.ok .non) () fun v10_letters => M.bindC (.ok .non) () fun v11_told => M.bindC (.ok (.bl false)) () fun v12_refused => M.bindC (.ok (.bl false)) () fun v13_same => (Ctl.tryC2 (X := Unit) (Y := D × D) (S := D × D × D × D) (M.bindC (b1 m_Table_placed (mlist [.ok v8_given])) (v10_letters, v13_same) fun v16_table => M.bindC (b1 (pyFld 1 "letters") (.ok v16_table)) (v10_letters, v13_same) fun v17_letters => M.bindC (andV (b2 pyEq (b1 (pyFld 1 "posts") (.ok v16_table)) (.ok v3_j)) (b2 (cmpO 1 m_Table___eq) (.ok v16_table) (b1 (mkO 1 m_Table___init) (mlist [.ok v17_letters])))) (v17_letters, v13_same) fun v18_same => .nx (v17_letters, v11_told, v12_refused, v18_same)) [false, false, true, false, false, false] [false, true, false, false, false, false] (fun (e : Exc) (v14_y : D × D) => M.bindC (exF "posts" e) () fun v19_told => M.bindC (orM (b1 pyTruth (isEx [false, true, false, false, false, false] e)) (orM (b1 pyTruth (isEx [false, false, false, true, false, false] e)) (notM (b1 pyTruth (isEx [true, true, true, true, true, true] e))))) () fun c => if c = true then (M.bindC (.ok (.bl false)) () Ctl.ret) else .nx (v14_y.1, v19_told, v12_refused, v14_y.2)) (fun (e : Exc) (v14_y : D × D) => M.bindC (andV (isEx [true, true, true, true, true, true] e) (andV (isEx [true, true, true, true, true, true] e) (notV (isEx [false, false, true, false, false, false] e)))) () fun v20_refused => .nx (v14_y.1, v11_told, v20_refused, v14_y.2))).bind fun (v15_j : D × D × D × D) => M.bindC (b1 isB (b2 pyNe (.ok v8_given) (.ok v6_places))) () fun c => if c = true then (M.bindC (.ok (.bl false)) () Ctl.ret) else M.bindC (orM (b1 isB (b2 pyLt (.ok v3_j) (.ok (.int 3)))) (b1 isB (b2 pyGt (.ok v3_j) (.ok (.int 8))))) () fun c => if c = true then (M.bindC (andV (.ok v15_j.2.2.1) (andV (b2 pyIs (.ok v15_j.2.1) (.ok .non)) (b2 pyIs (.ok v15_j.1) (.ok .non)))) () Ctl.ret) else M.bindC (b1 isB (b2 pyIsNot (.ok v9_flat_here) (.ok .non))) () fun c => if c = true then (M.bindC (orM (notM (b1 pyTruth (b1 (isiD [("NoneType", false), ("bool", false), ("int", false), ("str", false), ("list", false), ("tuple", true)] [(1, false)]) (.ok v15_j.2.1)))) (orM (b1 isB (b2 pyNe (b1 pyLen (mlist [.ok v15_j.2.1])) (.ok (.int 3)))) (b1 isB (b2 pyIsNot (.ok v15_j.1) (.ok .non))))) () fun c => if c = true then (M.bindC (.ok (.bl false)) () Ctl.ret) else M.bindC (andV (b1 pyAll (mlist [lcM (b1 pyItems (.ok v15_j.2.1)) (fun v21_x => elM (.ok true) (andV (b1 (isiD [("NoneType", false), ("bool", true), ("int", true), ("str", false), ("list", false), ("tuple", false)] [(1, false)]) (.ok v21_x)) (notV (b1 (isiD [("NoneType", false), ("bool", true), ("int", false), ("str", false), ("list", false), ("tuple", false)] [(1, false)]) (.ok v21_x)))))])) (b2 pyEq (.ok v15_j.2.1) (.ok v9_flat_here))) () Ctl.ret) else M.bindC (andV (b2 pyIs (.ok v15_j.2.1) (.ok .non)) (andV (notV (.ok v15_j.2.2.1)) (andV (b2 pyEq (.ok v15_j.1) (b1 m_l_expected (mlist [.ok v6_places]))) (.ok v15_j.2.2.2)))) () Ctl.ret
def m_law_k02 : List D → M D := ar1 c_law_k02
end Mir
namespace Mir
open PySem PySem.Spec L2

/-! ### wide places -/
def WBd (p : Pt) : Prop := -2000000000 ≤ p.1 ∧ p.1 ≤ 2000000000 ∧ -2000000000 ≤ p.2 ∧ p.2 ≤ 2000000000
theorem cross_w {p q r : Pt} (hp : WBd p) (hq : WBd q) (hr : WBd r) : m_l_cross [ptD p, ptD q, ptD r] = .ok (.int (crs p q r)) := by
  obtain ⟨p1, p2, p3, p4⟩ := hp
  obtain ⟨q1, q2, q3, q4⟩ := hq
  show (c_l_cross (ptD p) (ptD q) (ptD r)).toM = _
  unfold c_l_cross
  simp only [b2_ok, ix_pt0, ix_pt1, sub_ii]
  rw [mul_ii (.inl (by omega)), mul_ii (.inl (by omega)), b2_ok, sub_ii, bindC_ok, toM_ret]
  rfl
theorem area_w {p q r : Pt} (hp : WBd p) (hq : WBd q) (hr : WBd r) : m_area [ptD p, ptD q, ptD r] = .ok (.int (crs p q r)) := by
  obtain ⟨p1, p2, p3, p4⟩ := hp
  obtain ⟨q1, q2, q3, q4⟩ := hq
  show (c_area (ptD p) (ptD q) (ptD r)).toM = _
  unfold c_area
  simp only [b2_ok, ix_pt0, ix_pt1, sub_ii]
  rw [mul_ii (.inl (by omega)), bindC_ok, mul_ii (.inl (by omega)), b2_ok, sub_ii, bindC_ok, toM_ret]
  rfl
theorem wide_ok {l : List Int} {at0 : Nat} {w : Int} (h : 0 < w ∧ w ≤ 2000000001) (ha : at0 < 1000) : ∃ z : Int, m_l_wide [intsD l, .int at0, .int w] = .ok (.int z) ∧ -2000000000 ≤ z ∧ z ≤ 2000000000 := by
  obtain ⟨d, ed, hd⟩ := draw_n l at0 1000000 (by decide)
  obtain ⟨e, ee, he⟩ := draw_n l (at0 + 1) 1000000 (by decide)
  have ed : m_l_draw [intsD l, .int at0, .int 1000000] = .ok (.int d) := ed
  have ee : m_l_draw [intsD l, .int ((at0 : Int) + 1), .int 1000000] = .ok (.int e) := ee
  refine ⟨((d : Int) * 1000000 + e + at0 * at0) % w - w / 2, ?_, ?_⟩
  · show (c_l_wide (intsD l) (.int at0) (.int w)).toM = _
    unfold c_l_wide
    rw [c3 (m := m_l_draw), ed, b2_ok, mul_ii (.inr (by omega)), b2_ok (f := pyAdd) (a := .int (at0 : Int)), add_ii, c3 (m := m_l_draw), ee, b2_ok, add_ii, bindC_ok, b2_ok, mul_ii (.inl (by omega)), b2_ok, add_ii, c1 (m := pyInt), int_i, b2_ok, mod_ii h.1, b2_ok, div_ii (by decide), b2_ok, sub_ii, bindC_ok, toM_ret]
  · have h1 := Int.emod_nonneg ((d : Int) * 1000000 + e + at0 * at0) (show w ≠ 0 by omega)
    have h2 := Int.emod_lt_of_pos ((d : Int) * 1000000 + e + at0 * at0) h.1
    generalize ((d : Int) * 1000000 + e + at0 * at0) % w = u at *
    omega
theorem wplaces_ok {l : List Int} {w : Int} (h : 0 < w ∧ w ≤ 2000000001) {n : Nat} (hn : n ≤ 9) : ∃ ps : List Pt, ps.length = n ∧ (∀ p ∈ ps, WBd p) ∧ lcM (b1 pyRange1 (mlist [.ok (.int n)])) (fun v7_k => elM (.ok true) (b1 mkTup (mlist [b1 m_l_wide (mlist [.ok (intsD l), b2 pyAdd (.ok (.int 4)) (b2 pyMul (.ok (.int 4)) (.ok v7_k)), .ok (.int w)]), b1 m_l_wide (mlist [.ok (intsD l), b2 pyAdd (.ok (.int 6)) (b2 pyMul (.ok (.int 4)) (.ok v7_k)), .ok (.int w)])]))) = .ok (ptsD ps) := by
  have hk : ∀ k : Nat, ∃ p : Pt, k < n → WBd p ∧ elM (.ok true) (b1 mkTup (mlist [b1 m_l_wide (mlist [.ok (intsD l), b2 pyAdd (.ok (.int 4)) (b2 pyMul (.ok (.int 4)) (.ok (.int (k : Int)))), .ok (.int w)]), b1 m_l_wide (mlist [.ok (intsD l), b2 pyAdd (.ok (.int 6)) (b2 pyMul (.ok (.int 4)) (.ok (.int (k : Int)))), .ok (.int w)])])) = .ok [ptD p] := fun k => by
    by_cases hk : k < n
    · obtain ⟨x, ex, hx⟩ := wide_ok (l := l) (at0 := 4 + 4 * k) h (by omega)
      obtain ⟨y, ey, hy⟩ := wide_ok (l := l) (at0 := 6 + 4 * k) h (by omega)
      refine ⟨(x, y), fun _ => ⟨⟨hx.1, hx.2, hy.1, hy.2⟩, ?_⟩⟩
      have e4 : (4 : Int) + 4 * (k : Int) = ((4 + 4 * k : Nat) : Int) := by omega
      have e6 : (6 : Int) + 4 * (k : Int) = ((6 + 4 * k : Nat) : Int) := by omega
      rw [b2_ok, mul_ii (.inl (by omega)), b2_ok, add_ii, e4, c3 (m := m_l_wide), ex, b2_ok, add_ii, e6, c3 (m := m_l_wide), ey, tup2]
      rfl
    · exact ⟨(0, 0), fun z => absurd z hk⟩
  let f : Nat → Pt := fun k => Classical.choose (hk k)
  have hf := fun k => Classical.choose_spec (hk k)
  refine ⟨(List.range n).map f, by simp, fun p hp => ?_, ?_⟩
  · obtain ⟨k, hk', rfl⟩ := List.mem_map.mp hp
    exact (hf k (List.mem_range.mp hk')).1
  · rw [range_n (by omega)]
    refine lcM_ok rfl (compR (fun k => [ptD (f k)]) fun j hj => (hf j hj).2) (by rw [← List.map_eq_flatMap]; simp; omega) |>.trans ?_
    rw [← List.map_eq_flatMap]
    unfold ptsD
    rw [List.map_map]
    rfl
/-! ### the first flat three -/
theorem range_find {α : Type} {g : Nat → Option α} {n : Nat} {d : α} (h : (List.range n).findSome? g = some d) : ∃ i, i < n ∧ g i = some d ∧ ∀ j, j < i → g j = none := by
  induction n with
  | zero => simp at h
  | succ n ih =>
    rw [List.range_succ, List.findSome?_append, Option.or_eq_some_iff] at h
    rcases h with h | ⟨h1, h2⟩
    · obtain ⟨i, h1, h2, h3⟩ := ih h
      exact ⟨i, by omega, h2, h3⟩
    · refine ⟨n, by omega, ?_, fun j hj => List.findSome?_eq_none_iff.mp h1 j (List.mem_range.mpr hj)⟩
      simpa using h2
theorem range_none {α : Type} {g : Nat → Option α} {n : Nat} (h : (List.range n).findSome? g = none) : ∀ j, j < n → g j = none := fun j hj => List.findSome?_eq_none_iff.mp h j (List.mem_range.mpr hj)
def flC (ps : List Pt) (a b k : Nat) : Option D := if crs (gp ps a) (gp ps b) (gp ps (b + 1 + k)) = 0 then some (tupN [a, b, b + 1 + k]) else none
def flB (ps : List Pt) (a k : Nat) : Option D := (List.range (ps.length - (a + 1 + k + 1))).findSome? (flC ps a (a + 1 + k))
def flA (ps : List Pt) (a : Nat) : Option D := (List.range (ps.length - (a + 1))).findSome? (flB ps a)
def flO (ps : List Pt) : Option D := (List.range ps.length).findSome? (flA ps)
theorem loopR2_find {X : Type} {f : D → Unit → Ctl X Unit} {lo n : Nat} (g : Nat → Option D) (h : ∀ j : Nat, j < n → f (.int (lo + j : Nat)) () = outF () (g j)) : forC f (rangeD lo n) () = outF () ((List.range n).findSome? g) := by
  have e : rangeD lo n = (List.range n).map fun j : Nat => D.int ((lo + j : Nat) : Int) := by
    unfold rangeD
    refine List.map_congr_left fun x _ => ?_
    congr 1
  rw [e]
  exact loopM_find _ g fun j hj => h j (List.mem_range.mp hj)
theorem outF_un {X : Type} {o : Option D} : (Ctl.bind (outF () o : Ctl X Unit) fun _ => (.nx () : Ctl X Unit)) = outF () o := by
  cases o <;> rfl
theorem wbd_gp {l : List Pt} (hl : ∀ p ∈ l, WBd p) {k : Nat} (h : k < l.length) : WBd (gp l k) := by rw [gp_at h]; exact hl _ (List.getElem_mem h)
theorem flat_ok {ps : List Pt} (hb : ∀ p ∈ ps, WBd p) (hn : ps.length ≤ 9) : m_l_flat [ptsD ps] = .ok (optD (flO ps)) := by
  show (c_l_flat (ptsD ps)).toM = _
  unfold c_l_flat
  have len : b1 pyLen (mlist [.ok (ptsD ps)]) = .ok (.int ps.length) := by rw [c1 (m := pyLen), len_pts]
  rw [len, range_n (by omega), bindC_ok, loopR_find (flA ps) fun a ha => ?_]
  · show Ctl.toM (Ctl.bind (outF () (flO ps)) _) = _
    cases flO ps <;> rfl
  · rw [b2_ok, add_ii, c2 (m := pyRange2), range2_i (by omega), bindC_ok]
    have e1 : ((a : Int) + 1) = ((a + 1 : Nat) : Int) := by omega
    have e2 : ((ps.length : Int) - ((a + 1 : Nat) : Int)).toNat = ps.length - (a + 1) := by omega
    rw [e1, e2, loopR2_find (flB ps a) fun b hb' => ?_]
    · exact outF_un
    · have e1 : (((a + 1 + b : Nat) : Int) + 1) = ((a + 1 + b + 1 : Nat) : Int) := by omega
      have e2 : ((ps.length : Int) - ((a + 1 + b + 1 : Nat) : Int)).toNat = ps.length - (a + 1 + b + 1) := by omega
      rw [b2_ok, add_ii, c2 (m := pyRange2), e1, range2_i (by omega), bindC_ok, e2, loopR2_find (flC ps a (a + 1 + b)) fun c hc => ?_]
      · exact outF_un
      · rw [b2_ok, ix_gp ha, b2_ok, ix_gp (by omega), b2_ok, ix_gp (by omega), c3 (m := m_l_cross), cross_w (wbd_gp hb ha) (wbd_gp hb (by omega)) (wbd_gp hb (by omega)), b2_ok, eq_ii, b1_ok, isB_bl, bindC_ok]
        unfold flC
        by_cases z : crs (gp ps a) (gp ps (a + 1 + b)) (gp ps (a + 1 + b + 1 + c)) = 0
        · rw [if_pos (decide_eq_true z), if_pos z, tup3, bindC_ok]
          rfl
        · rw [if_neg (by simpa using z), if_neg z]
          rfl
/-- what it finds: the least one -/
theorem flO_some {ps : List Pt} {d : D} (h : flO ps = some d) : ∃ a b c : Nat, d = tupN [a, b, c] ∧ a < b ∧ b < c ∧ c < ps.length ∧ crs (gp ps a) (gp ps b) (gp ps c) = 0 ∧
    ∀ x y z : Nat, x < y → y < z → z < ps.length → crs (gp ps x) (gp ps y) (gp ps z) = 0 → a < x ∨ (a = x ∧ (b < y ∨ (b = y ∧ c ≤ z))) := by
  obtain ⟨a, ha, h1, m1⟩ := range_find h
  obtain ⟨b, hb, h2, m2⟩ := range_find h1
  obtain ⟨c, hc, h3, m3⟩ := range_find h2
  unfold flC at h3
  split at h3
  · rename_i hz
    cases h3
    refine ⟨a, a + 1 + b, a + 1 + b + 1 + c, rfl, by omega, by omega, by omega, hz, fun x y z hxy hyz hz0 hcr => ?_⟩
    by_cases q1 : a < x
    · exact .inl q1
    by_cases q2 : x < a
    · exfalso
      have n1 := range_none (m1 x q2) (y - (x + 1)) (by omega)
      have n2 := range_none n1 (z - (y + 1)) (by omega)
      unfold flC at n2
      rw [show x + 1 + (y - (x + 1)) = y from by omega, show y + 1 + (z - (y + 1)) = z from by omega, if_pos hcr] at n2
      cases n2
    have q3 : a = x := by omega
    subst q3
    refine .inr ⟨rfl, ?_⟩
    by_cases q4 : a + 1 + b < y
    · exact .inl q4
    by_cases q5 : y < a + 1 + b
    · exfalso
      have n1 := m2 (y - (a + 1)) (by omega)
      have n2 := range_none n1 (z - (y + 1)) (by omega)
      unfold flC at n2
      rw [show a + 1 + (y - (a + 1)) = y from by omega, show y + 1 + (z - (y + 1)) = z from by omega, if_pos hcr] at n2
      cases n2
    have q6 : a + 1 + b = y := by omega
    subst q6
    refine .inr ⟨rfl, ?_⟩
    by_cases q7 : z < a + 1 + b + 1 + c
    · exfalso
      have n1 := m3 (z - (a + 1 + b + 1)) (by omega)
      unfold flC at n1
      rw [show a + 1 + b + 1 + (z - (a + 1 + b + 1)) = z from by omega, if_pos hcr] at n1
      cases n1
    · omega
  · cases h3
theorem flO_none {ps : List Pt} (h : flO ps = none) : ∀ x y z : Nat, x < y → y < z → z < ps.length → crs (gp ps x) (gp ps y) (gp ps z) ≠ 0 := fun x y z hxy hyz hz hcr => by
  have n0 := range_none h x (by omega)
  have n1 := range_none n0 (y - (x + 1)) (by omega)
  have n2 := range_none n1 (z - (y + 1)) (by omega)
  unfold flC at n2
  rw [show x + 1 + (y - (x + 1)) = y from by omega, show y + 1 + (z - (y + 1)) = z from by omega, if_pos hcr] at n2
  cases n2
theorem gp_of {ps : List Pt} (h3 : 3 ≤ ps.length) (h : ∀ x y z : Nat, x < y → y < z → z < ps.length → crs (gp ps x) (gp ps y) (gp ps z) ≠ 0) : GP ps := by
  refine ⟨fun i k hik hk e => ?_, h⟩
  have e1 : ∀ z, crs (gp ps i) (gp ps k) z = 0 := fun z => by rw [e]; unfold crs; grind
  have e2 : ∀ z, crs (gp ps i) z (gp ps k) = 0 := fun z => by rw [e]; unfold crs; grind
  have e3 : ∀ z, crs z (gp ps i) (gp ps k) = 0 := fun z => by rw [e]; unfold crs; grind
  by_cases h1 : k + 1 < ps.length
  · exact h i k (k + 1) hik (by omega) h1 (e1 _)
  by_cases h2 : 0 < i
  · exact h 0 i k h2 hik hk (e3 _)
  · exact h i (i + 1) k (by omega) (by omega) hk (e2 _)
theorem ix_head {d : D} {ds : List D} : pyIx (.lst (d :: ds)) (.int 0) = .ok d := by
  show ofOpt (atI (d :: ds) ((0 : Nat) : Int)) = _
  rw [atI_nat (x := d) rfl]
  rfl
/-! ### Table.placed -/
def arL (ps : List Pt) : List Int := (thr ps.length).map fun t => crs (gp ps t.1) (gp ps t.2.1) (gp ps t.2.2)
def flL (ps : List Pt) : List T3 := (thr ps.length).filter fun t => decide (crs (gp ps t.1) (gp ps t.2.1) (gp ps t.2.2) = 0)
def t3I (t : T3) : List Int := [(t.1 : Int), (t.2.1 : Int), (t.2.2 : Int)]
theorem t3D_I (t : T3) : t3D t = tupD (t3I t) := rfl
theorem tupsI_map (l : List T3) : tupsI (l.map t3D) = some (l.map t3I) := by
  induction l with
  | nil => rfl
  | cons x l ih =>
    show (match tupI (t3D x) with | none => none | some l' => (tupsI (l.map t3D)).map (l' :: ·)) = _
    rw [ih]
    rfl
theorem zip_thr (ps : List Pt) : zipD ((thr ps.length).map t3D) ((arL ps).map D.int) = (thr ps.length).map fun t => D.tup [t3D t, .int (crs (gp ps t.1) (gp ps t.2.1) (gp ps t.2.2))] := by
  unfold zipD arL
  rw [List.map_map]
  generalize thr ps.length = l
  induction l with
  | nil => rfl
  | cons x l ih =>
    simp only [List.map_cons, List.zip_cons_cons]
    rw [ih]
    rfl
theorem placed_ok {ps : List Pt} (hb : ∀ p ∈ ps, WBd p) (h3 : 3 ≤ ps.length) (h8 : ps.length ≤ 8) : m_Table_placed [ptsD ps] = match flO ps with
    | some d => .exn ⟨2, [("posts", d)]⟩
    | none => .ok (tabD ps.length (ptT ps)) := by
  show (c_Table_placed (ptsD ps)).toM = _
  unfold c_Table_placed
  have len : b1 pyLen (mlist [.ok (ptsD ps)]) = .ok (.int ps.length) := by rw [c1 (m := pyLen), len_pts]
  have e1 : notM (b1 isB (chM pyLe pyLe (.ok (.int 3)) (M.ok (.int (ps.length : Int))) (.ok (.int 8)))) = .ok false := by
    show notM (b1 isB ((pyLe (.int 3) (.int (ps.length : Int))).bind fun z => (isB z).bind fun k => if k = true then (M.ok (D.int 8)).bind fun w => pyLe (.int ps.length) w else .ok (.bl false))) = _
    rw [le_t (by omega), bind_ok, isB_bl, bind_ok, if_pos rfl, bind_ok, le_t (by omega)]
    rfl
  have ethr : b1 m_threes (mlist [M.ok (.int (ps.length : Int))]) = .ok (.lst ((thr ps.length).map t3D)) := by rw [c1 (m := m_threes), threes_ok h8]
  rw [len, e1, bindC_ok, if_neg (by decide), ethr]
  have tl := thr_len ps.length h8
  have ear : lcM (b1 pyItems (.ok (.lst ((thr ps.length).map t3D)))) (fun v2_t => un3 .stk v2_t fun v3_a v4_b v5_c => elM (.ok true) (b1 m_area (mlist [b2 pyIx (.ok (ptsD ps)) (.ok v3_a), b2 pyIx (.ok (ptsD ps)) (.ok v4_b), b2 pyIx (.ok (ptsD ps)) (.ok v5_c)]))) = .ok (intsD (arL ps)) := by
    refine lcM_ok (ds := (thr ps.length).map t3D) rfl (compL_map t3D (fun t => [D.int (crs (gp ps t.1) (gp ps t.2.1) (gp ps t.2.2))]) fun t ht => ?_) ?_ |>.trans ?_
    · obtain ⟨k1, k2, k3⟩ := mem_thr.mp ht
      show un3 (M.stk : M (List D)) (.tup [.int t.1, .int t.2.1, .int t.2.2]) _ = _
      rw [un3_t]
      refine elM_t ?_
      rw [b2_ok, b2_ok, b2_ok, ix_gp (by omega), ix_gp (by omega), ix_gp (by omega), c3 (m := m_area), area_w (wbd_gp hb (by omega)) (wbd_gp hb (by omega)) (wbd_gp hb (by omega))]
    · rw [← List.map_eq_flatMap, List.length_map]; omega
    · rw [← List.map_eq_flatMap]
      unfold intsD arL
      rw [List.map_map]
      rfl
  rw [ear, bindC_ok]
  have ezip : b1 pyZip (mlist [.ok (.lst ((thr ps.length).map t3D)), .ok (intsD (arL ps))]) = .ok ((thr ps.length).map fun t => D.tup [t3D t, .int (crs (gp ps t.1) (gp ps t.2.1) (gp ps t.2.2))]) := by
    rw [c2 (m := pyZip), ← zip_thr]
    refine if_pos ?_
    unfold arL
    simp
  have efl : lcM (.ok ((thr ps.length).map fun t => D.tup [t3D t, .int (crs (gp ps t.1) (gp ps t.2.1) (gp ps t.2.2))])) (fun v7_t => un2 .stk v7_t fun v8_three v9_size => elM (b1 isB (b2 pyEq (.ok v9_size) (.ok (.int 0)))) (.ok v8_three)) = .ok (.lst ((flL ps).map t3D)) := by
    refine lcM_ok (ds := _) rfl (compL_map (fun t : T3 => D.tup [t3D t, .int (crs (gp ps t.1) (gp ps t.2.1) (gp ps t.2.2))]) (fun t => if crs (gp ps t.1) (gp ps t.2.1) (gp ps t.2.2) = 0 then [t3D t] else []) fun t ht => ?_) ?_ |>.trans ?_
    · rw [un2_t, b2_ok, eq_ii, b1_ok, isB_bl]
      by_cases z : crs (gp ps t.1) (gp ps t.2.1) (gp ps t.2.2) = 0
      · rw [if_pos z, decide_eq_true z]; exact elM_t rfl
      · rw [if_neg z, decide_eq_false z]; exact elM_f
    · have := len_flat (g := fun t : T3 => if crs (gp ps t.1) (gp ps t.2.1) (gp ps t.2.2) = 0 then [t3D t] else []) (k := 1) (l := thr ps.length) fun x _ => by split <;> simp
      omega
    · refine congrArg (fun l => M.ok (D.lst l)) ?_
      unfold flL
      generalize thr ps.length = l
      induction l with
      | nil => rfl
      | cons x l ih =>
        rw [List.flatMap_cons, ih, List.filter_cons]
        by_cases z : crs (gp ps x.1) (gp ps x.2.1) (gp ps x.2.2) = 0
        · rw [if_pos z, if_pos (decide_eq_true z)]; rfl
        · rw [if_neg z, if_neg (by simpa using z)]; rfl
  have hin : ∀ t, t ∈ flL ps ↔ (t.1 < t.2.1 ∧ t.2.1 < t.2.2 ∧ t.2.2 < ps.length) ∧ crs (gp ps t.1) (gp ps t.2.1) (gp ps t.2.2) = 0 := fun t => by
    unfold flL
    rw [List.mem_filter, mem_thr, decide_eq_true_eq]
  have bd : ∀ x, x ∈ (flL ps).map t3I → x.length = 3 ∧ TS.Bd cT3 x ∧ bdT x = true := fun x hx => by
    obtain ⟨t, ht, rfl⟩ := List.mem_map.mp hx
    obtain ⟨⟨k1, k2, k3⟩, _⟩ := (hin t).mp ht
    have : bdT (t3I t) = true := by
      unfold bdT t3I cT3
      simp only [List.all_cons, List.all_nil, Bool.and_true, Bool.and_eq_true, decide_eq_true_eq]
      omega
    exact ⟨rfl, bdT_bd this, this⟩
  have esort : pySortedT 3 [.lst ((flL ps).map t3D)] = .ok (.lst ((isortT ((flL ps).map t3I)).map tupD)) := by
    show (ofOpt (tupsI ((flL ps).map t3D))).bind _ = _
    rw [tupsI_map, ofOpt_some, bind_ok]
    refine if_pos ⟨by decide, ?_⟩
    unfold okT
    rw [List.all_eq_true]
    intro x hx
    obtain ⟨b1', _, b3⟩ := bd x hx
    rw [b3, decide_eq_true b1']
    rfl
  rw [ezip, efl, c1 (m := pySortedT 3), esort, bindC_ok]
  cases hf : flO ps with
  | some d =>
    obtain ⟨a, b, c, rfl, hab, hbc, hc, hz, least⟩ := flO_some hf
    have hmem : t3I (a, b, c) ∈ (flL ps).map t3I := List.mem_map.mpr ⟨(a, b, c), (hin _).mpr ⟨⟨hab, hbc, hc⟩, hz⟩, rfl⟩
    have hp := isortT_perm ((flL ps).map t3I)
    have hs := isortT_sorted ((flL ps).map t3I)
    cases hL : isortT ((flL ps).map t3I) with
    | nil =>
      rw [hL] at hp
      rw [hp.symm.eq_nil] at hmem
      cases hmem
    | cons x L =>
      rw [hL] at hp hs
      have hx : x ∈ (flL ps).map t3I := hp.mem_iff.mp (List.mem_cons_self ..)
      obtain ⟨t, ht, rfl⟩ := List.mem_map.mp hx
      obtain ⟨⟨k1, k2, k3⟩, kz⟩ := (hin t).mp ht
      have hle : TS.code cT3 (t3I t) ≤ TS.code cT3 (t3I (a, b, c)) := by
        rcases List.mem_cons.mp (hp.mem_iff.mpr hmem) with e | hm
        · rw [e]; exact Int.le_refl _
        · exact (List.pairwise_cons.mp hs).1 _ hm
      have hl := least t.1 t.2.1 t.2.2 k1 k2 k3 kz
      have e : t = (a, b, c) := by
        obtain ⟨x, y, z⟩ := t
        unfold t3I TS.code TS.code TS.code TS.code cT3 at hle
        dsimp only at *
        simp only [List.length_cons, List.length_nil, Nat.zero_add, Nat.reduceAdd] at hle
        have : (65536 : Int) ^ 2 = 4294967296 := by decide
        rw [this] at hle
        have : (65536 : Int) ^ 1 = 65536 := by decide
        rw [this] at hle
        have : (65536 : Int) ^ 0 = 1 := by decide
        rw [this] at hle
        have e1 : a = x ∧ b = y ∧ c = z := by omega
        rw [e1.1, e1.2.1, e1.2.2]
      subst e
      show Ctl.toM (M.bindC (M.ok true) () fun c => if c = true then _ else _) = _
      rw [bindC_ok, if_pos rfl]
      rw [b2_ok, List.map_cons, ix_head, mlist_cons, mlist_nil, bind_ok, bindC_ok]
      rfl
  | none =>
    have hne := flO_none hf
    have e0 : flL ps = [] := by
      cases h : flL ps with
      | nil => rfl
      | cons t L =>
        obtain ⟨⟨k1, k2, k3⟩, kz⟩ := (hin t).mp (by rw [h]; exact List.mem_cons_self ..)
        exact absurd kz (hne _ _ _ k1 k2 k3)
    have G := gp_of h3 hne
    have T := pt_tab G h3 h8
    rw [e0]
    show Ctl.toM (M.bindC (b1 (mkO 1 m_Table___init) (mlist [b2s pyJoin (.ok (.str "")) (lcM (b1 pyItems (.ok (intsD (arL ps)))) (fun v10_size => elM (.ok true) (ifM (b1 isB (b2 pyGt (.ok v10_size) (.ok (.int 0)))) (.ok (.str "L")) (.ok (.str "R")))))])) () Ctl.ret) = _
    have e2 : lcM (b1 pyItems (.ok (intsD (arL ps)))) (fun v10_size => elM (.ok true) (ifM (b1 isB (b2 pyGt (.ok v10_size) (.ok (.int 0)))) (.ok (.str "L")) (.ok (.str "R")))) = .ok (.lst ((lw ps.length (ptT ps)).map fun x => strD [x])) := by
      refine lcM_ok (ds := (arL ps).map D.int) rfl (compL_map D.int (fun z => [strD [if 0 < z then 76 else 82]]) fun z _ => ?_) ?_ |>.trans ?_
      · refine elM_t ?_
        rw [b2_ok, gt_ii, b1_ok, isB_bl, ifM_ok, strD_L, strD_R]
        by_cases h : 0 < z
        · rw [if_pos (decide_eq_true h), if_pos h]
        · rw [if_neg (by simpa using h), if_neg h]
      · rw [← List.map_eq_flatMap, List.length_map]
        unfold arL
        rw [List.length_map]; omega
      · rw [← List.map_eq_flatMap]
        refine congrArg (fun l => M.ok (D.lst l)) ?_
        unfold arL lw
        rw [List.map_map, List.map_map]
        refine List.map_congr_left fun t ht => ?_
        obtain ⟨k1, k2, k3⟩ := mem_thr.mp ht
        show strD [if 0 < crs (gp ps t.1) (gp ps t.2.1) (gp ps t.2.2) then 76 else 82] = strD [ltr (ptT ps t.1 t.2.1 t.2.2)]
        unfold ptT ltr
        rcases sgn_cases (crs (gp ps t.1) (gp ps t.2.1) (gp ps t.2.2)) with ⟨q1, q2⟩ | ⟨q1, q2⟩ | ⟨q1, q2⟩
        · rw [q2, if_pos q1]; rfl
        · rw [q2, if_neg (by omega)]; rfl
        · exact absurd q1 (hne _ _ _ k1 k2 k3)
    rw [e2, show b2s pyJoin (.ok (.str "")) (.ok (.lst ((lw ps.length (ptT ps)).map fun x => strD [x]))) = pyJoin (.str "") (.lst ((lw ps.length (ptT ps)).map fun x => strD [x])) from rfl, join_signs T.len, c1 (m := mkO 1 m_Table___init), make_tab T, bindC_ok]
    rfl
theorem placed_bad {ps : List Pt} (h : ps.length < 3 ∨ 8 < ps.length) : m_Table_placed [ptsD ps] = .exn ⟨1, []⟩ := by
  show (c_Table_placed (ptsD ps)).toM = _
  unfold c_Table_placed
  have len : b1 pyLen (mlist [.ok (ptsD ps)]) = .ok (.int ps.length) := by rw [c1 (m := pyLen), len_pts]
  have e1 : notM (b1 isB (chM pyLe pyLe (.ok (.int 3)) (M.ok (.int (ps.length : Int))) (.ok (.int 8)))) = .ok true := by
    show notM (b1 isB ((pyLe (.int 3) (.int (ps.length : Int))).bind fun z => (isB z).bind fun k => if k = true then (M.ok (D.int 8)).bind fun w => pyLe (.int ps.length) w else .ok (.bl false))) = _
    by_cases g : 3 ≤ ps.length
    · rw [le_t (by omega), bind_ok, isB_bl, bind_ok, if_pos rfl, bind_ok, le_f (by omega)]
      rfl
    · rw [le_f (by omega), bind_ok, isB_bl, bind_ok, if_neg (by decide)]
      rfl
  rw [len, e1, bindC_ok, if_pos rfl]
  rfl

/-! ### what the law expects -/
theorem pts_std (l : List Pt) : stdD (ptsD l) = true ∧ depD (ptsD l) ≤ 64 := by
  unfold ptsD
  have h : ∀ d ∈ l.map ptD, stdD d = true ∧ depD d = 1 := fun d hd => by
    obtain ⟨x, _, rfl⟩ := List.mem_map.mp hd
    exact ⟨rfl, rfl⟩
  refine ⟨?_, ?_⟩
  · simp only [stdD]
    exact stdDs_all fun d hd => (h d hd).1
  · have := depDs_le (k := 1) fun d hd => by rw [(h d hd).2]; exact Nat.le_refl _
    simp only [depD]
    omega
theorem expected_ok {ps : List Pt} (hb : ∀ p ∈ ps, WBd p) (h8 : ps.length ≤ 8) (G : GP ps) : m_l_expected [ptsD ps] = .ok (strD (lw ps.length (ptT ps))) := by
  show (c_l_expected (ptsD ps)).toM = _
  unfold c_l_expected
  have len : b1 pyLen (mlist [.ok (ptsD ps)]) = .ok (.int ps.length) := by rw [c1 (m := pyLen), len_pts]
  rw [bindC_ok, len, range_n (by omega), bindC_ok]
  refine (congrArg (fun c => Ctl.toM (Ctl.bind c _)) (letters_gen (n := ps.length) (f := ptT ps) (W := fun a b c => b2 pyGt (b1 m_l_cross (mlist [b2 pyIx (.ok (ptsD ps)) (.ok a), b2 pyIx (.ok (ptsD ps)) (.ok b), b2 pyIx (.ok (ptsD ps)) (.ok c)])) (.ok (.int 0))) (by omega) (fun a b c h1 h2 h3 => ?_) fun a b c h1 h2 h3 => ?_)).trans ?_
  · rcases G.turn (a := a) (b := b) (c := c) (by omega) (by omega) h3 (by omega) (by omega) (by omega) with e | e <;> rw [e] <;> decide
  · rw [b2_ok, b2_ok, b2_ok, ix_gp (by omega), ix_gp (by omega), ix_gp (by omega), c3 (m := m_l_cross), cross_w (wbd_gp hb (by omega)) (wbd_gp hb (by omega)) (wbd_gp hb (by omega)), b2_ok, gt_ii]
    refine congrArg (fun b => M.ok (D.bl b)) (decide_eq_decide.mpr ?_)
    unfold ptT
    rcases sgn_cases (crs (gp ps a) (gp ps b) (gp ps c)) with ⟨q1, q2⟩ | ⟨q1, q2⟩ | ⟨q1, q2⟩ <;> rw [q2] <;> omega
  · rfl
theorem lw_pt_n {n m : Nat} (e : n = m) {f : Tn} : lw n f = lw m f := by rw [e]
theorem law_k02_true (ns : List Int) (hn : ns.length ≤ 63) (_ : ∀ z ∈ ns, Builtin.Int.intBits z ≤ 1048576) : m_law_k02 [.scr ns] = .ok (.bl true) := by
  show (c_law_k02 (.scr ns)).toM = _
  unfold c_law_k02
  obtain ⟨l, hl, _⟩ := pool_ok ns hn
  rw [c1 (m := m_l_pool), hl, bindC_ok]
  obtain ⟨n0, hp, h3, h8⟩ := posts_ok l
  rw [hp, bindC_ok]
  refine toM_of' (NxIs.ret (P := fun d => ∃ n : Nat, d = .int n ∧ n ≤ 9) ?_ ?_)
  · obtain ⟨a, ea, ha⟩ := draw_n l 1 5 (by decide)
    have ea : m_l_draw [intsD l, .int 1, .int 5] = .ok (.int a) := ea
    obtain ⟨b, eb, hb⟩ := draw_n l 2 4 (by decide)
    have eb : m_l_draw [intsD l, .int 2, .int 4] = .ok (.int b) := eb
    rw [b1_draw, ea, b2_ok, eq_ii, b1_ok, isB_bl, bindC_ok]
    by_cases g : (a : Int) = 1
    · rw [if_pos (decide_eq_true g), c4 (m := mkLst), lst_ok (by simp), b1_draw, eb, b2_ok]
      have hb : b = 0 ∨ b = 1 ∨ b = 2 ∨ b = 3 := by omega
      rcases hb with rfl | rfl | rfl | rfl
      · exact .mk ⟨0, rfl, by decide⟩
      · exact .mk ⟨1, rfl, by decide⟩
      · exact .mk ⟨2, rfl, by decide⟩
      · exact .mk ⟨9, rfl, by decide⟩
    · rw [if_neg (by simpa using g)]
      exact .mk ⟨n0, rfl, by omega⟩
  rintro d ⟨n, rfl, hn9⟩
  obtain ⟨u, eu, hu⟩ := draw_n l 3 3 (by decide)
  have eu : m_l_draw [intsD l, .int 3, .int 3] = .ok (.int u) := eu
  have ew : ∃ w : Int, (0 < w ∧ w ≤ 2000000001) ∧ b2 pyIx (b1 mkLst (mlist [.ok (.int 40), .ok (.int 4), b2 pyAdd (b2 pyMul (.ok (.int 2)) (b2 pyPow (.ok (.int 10)) (.ok (.int 9)))) (.ok (.int 1))])) (b1 m_l_draw (mlist [.ok (intsD l), .ok (.int 3), .ok (.int 3)])) = .ok (.int w) := by
    rw [b2_ok (f := pyPow), pow_ii (by decide), b2_ok, mul_ii (.inl (by decide)), b2_ok, add_ii, c3 (m := mkLst), lst_ok (by simp), b1_draw, eu, b2_ok]
    have hu : u = 0 ∨ u = 1 ∨ u = 2 := by omega
    rcases hu with rfl | rfl | rfl
    · exact ⟨40, by decide, rfl⟩
    · exact ⟨4, by decide, rfl⟩
    · exact ⟨2000000001, by decide, rfl⟩
  obtain ⟨w, hw, ew⟩ := ew
  obtain ⟨ps, rfl, hb, eps⟩ := wplaces_ok (l := l) hw hn9
  have elist : b1 pyList (mlist [.ok (ptsD ps)]) = .ok (ptsD ps) := by rw [c1 (m := pyList)]; rfl
  rw [ew, bindC_ok, eps, bindC_ok, elist, bindC_ok, c1 (m := m_l_flat), flat_ok hb hn9, bindC_ok, bindC_ok, bindC_ok, bindC_ok, bindC_ok, c1 (m := m_Table_placed)]
  have same : b1 isB (b2 pyNe (.ok (ptsD ps)) (.ok (ptsD ps))) = .ok false := by
    rw [b2_ok, (eq_same (pts_std ps).1 (pts_std ps).2).2]
    rfl
  by_cases hlen : ps.length < 3 ∨ 8 < ps.length
  · rw [placed_bad hlen]
    refine NxIs.ret (P := fun j => j = (.non, .non, .bl true, .bl false)) ⟨_, rfl, rfl⟩ ?_
    rintro j rfl
    rw [same, bindC_ok, if_neg (by decide), b2_ok, lt_ii, b1_ok, isB_bl, orM_ok]
    by_cases g : ps.length < 3
    · rw [if_pos (by simpa using (by omega : (ps.length : Int) < 3)), bindC_ok, if_pos rfl]
      exact .mk rfl
    · rw [if_neg (by simpa using (by omega : ¬ (ps.length : Int) < 3)), b2_ok, gt_t (by omega), b1_ok, isB_bl, bindC_ok, if_pos rfl]
      exact .mk rfl
  · have h3 : 3 ≤ ps.length := by omega
    have h8 : ps.length ≤ 8 := by omega
    have notbad : ∀ {k : Bool → Ctl Unit Unit}, M.bindC (orM (b1 isB (b2 pyLt (.ok (.int (ps.length : Int))) (.ok (.int 3)))) (b1 isB (b2 pyGt (.ok (.int (ps.length : Int))) (.ok (.int 8))))) () k = k false := fun {k} => by
      rw [b2_ok, lt_f (by omega), b1_ok, isB_bl, orM_ok, if_neg (by decide), b2_ok, gt_f (by omega), b1_ok, isB_bl, bindC_ok]
    rw [placed_ok hb h3 h8]
    cases hf : flO ps with
    | some d =>
      obtain ⟨a, b, c, rfl, _⟩ := flO_some hf
      refine NxIs.ret (P := fun j => j = (.non, tupN [a, b, c], .bl false, .bl false)) ⟨_, rfl, rfl⟩ ?_
      rintro j rfl
      rw [same, bindC_ok, if_neg (by decide), notbad, if_neg (by decide)]
      have q2 : pyEq (tupN [a, b, c]) (tupN [a, b, c]) = .ok (.bl true) := (eq_same rfl (by show (1 : Nat) ≤ 64; decide)).1
      show RetIs (M.bindC (M.ok true) () _) _
      rw [bindC_ok, if_pos rfl]
      show RetIs (M.bindC (M.ok false) () _) _
      rw [bindC_ok, if_neg (by decide)]
      dsimp only
      rw [b2_ok (f := pyEq), show optD (some (tupN [a, b, c])) = tupN [a, b, c] from rfl, q2]
      exact .mk rfl
    | none =>
      have G := gp_of h3 (flO_none hf)
      have T := pt_tab G h3 h8
      refine NxIs.ret (P := fun j => j = (strD (lw ps.length (ptT ps)), .non, .bl false, .bl true)) ?_ ?_
      · dsimp only
        rw [bindC_ok, b1_ok (f := pyFld 1 "letters"), fld_letters, bindC_ok, b1_ok (f := pyFld 1 "posts"), fld_posts, b2_ok (f := pyEq), eq_t rfl, c1 (m := mkO 1 m_Table___init), make_tab T, b2_ok (f := cmpO 1 m_Table___eq), eq_tab]
        refine ⟨_, rfl, ?_⟩
        simp
      · rintro j rfl
        rw [same, bindC_ok, if_neg (by decide), notbad, if_neg (by decide)]
        show RetIs (M.bindC (M.ok false) () _) _
        rw [bindC_ok, if_neg (by decide)]
        dsimp only
        have q2 : pyEq (strD (lw ps.length (ptT ps))) (strD (lw ps.length (ptT ps))) = .ok (.bl true) := by rw [eq_strD]; simp
        rw [c1 (m := m_l_expected), expected_ok hb h8 G, b2_ok (f := pyEq), q2]
        exact .mk rfl
end Mir
set_option maxHeartbeats 8000000
namespace Mir
open PySem PySem.Spec L2
open PyProof.Rows (envOfC)

def clsS (s : Stmt) (i : Nat) : Stmt := match s with
  | .ClassDef _ _ _ b _ _ _ _ _ _ _ => b.getD i (.Pass ⟨0, 0, 0, 0⟩)
  | _ => .Pass ⟨0, 0, 0, 0⟩
def topS (i : Nat) : Stmt := PySem.Challenge.pw_movedposts_k02_placed_tables.main.body.getD i (.Pass ⟨0, 0, 0, 0⟩)
/-! ### position -/
abbrev s_position : Stmt := topS 11
theorem sc_position : FnScope ["a", "b", "c"] ["a", "b", "c"] (defScope s_position) := ⟨rfl, rfl, rfl, by decide +kernel, rfl, by decide +kernel, by decide +kernel⟩
theorem ok_position {G : GG} {f : Addr} {fd : FuncData} (Fn : Fun G.K "position" "position" s_position f fd) : FnOk G.P G.w G.K G.mg G.base (L2.CX G.P G.w) 1 f fd ["a", "b", "c"] (spM G m_position) := by
  refine fn_ok [true, true, true] _ Fn sc_position (by decide +kernel) rfl ar3_len (fun cdv A outer s H E hr ds hl => ?_)
  obtain ⟨p_a, p_b, p_c, rfl⟩ := len3 hl
  refine ⟨c_position p_a p_b p_c, rfl, ?_⟩
  unfold c_position
  refine bm_lit [.val p_a, .val p_b, .val p_c] rfl ?_
  exact bm_ret (he := em_add (em_add (em_div (em_mul (em_mul (em_var 2 rfl rfl rfl) (em_sub (em_var 2 rfl rfl rfl) em_int)) (em_sub (em_var 2 rfl rfl rfl) em_int)) em_int) (em_div (em_mul (em_var 1 rfl rfl rfl) (em_sub (em_var 1 rfl rfl rfl) em_int)) em_int)) (em_var 0 rfl rfl rfl)) .nil
/-! ### turn_of -/
abbrev s_turn_of : Stmt := topS 12
theorem sc_turn_of : FnScope ["letters", "a", "b", "c", "sign", "letter"] ["letters", "a", "b", "c"] (defScope s_turn_of) := ⟨rfl, rfl, rfl, by decide +kernel, rfl, by decide +kernel, by decide +kernel⟩
theorem ok_turn_of {G : GG} {f : Addr} {fd : FuncData} (Fn : Fun G.K "turn_of" "turn_of" s_turn_of f fd) (k_position : Kn G 1 "position" m_position) : FnOk G.P G.w G.K G.mg G.base (L2.CX G.P G.w) 2 f fd ["letters", "a", "b", "c"] (spM G m_turn_of) := by
  refine fn_ok [true, true, true, true, true, true] _ Fn sc_turn_of (by decide +kernel) rfl ar4_len (fun cdv A outer s H E hr ds hl => ?_)
  obtain ⟨p_letters, p_a, p_b, p_c, rfl⟩ := len4 hl
  refine ⟨c_turn_of p_letters p_a p_b p_c, rfl, ?_⟩
  unfold c_turn_of
  refine bm_lit [.val p_letters, .val p_a, .val p_b, .val p_c, .unk, .unk] rfl ?_
  refine bm_asg 4 (gm_set 4 rfl rfl em_int) .nil fun v1_sign => ?_
  refine bm_lit [.val p_letters, .val p_a, .val p_b, .val p_c, .val v1_sign, .unk] rfl ?_
  refine bm_if (fj := (fun (v2_j : D × D × D) => [.val p_letters, .val v2_j.1, .val v2_j.2.1, .val p_c, .val v2_j.2.2, .unk])) (tm_cmp ok_gt rm_gt (em_var 1 rfl rfl rfl) (em_var 2 rfl rfl rfl) (nomark _)) .nil ?_ ?_ (fun v2_j => ?_)
  · skip
    refine bm_lit [.val p_letters, .val p_a, .val p_b, .val p_c, .val v1_sign, .unk] rfl ?_
    refine bm_par3 1 2 4 (am_cons (em_var 2 rfl rfl rfl) (am_cons (em_var 1 rfl rfl rfl) (am_cons (em_neg (em_var 4 rfl rfl rfl)) am_nil))) .nil (fun v3_a v4_b v5_sign => ?_) rfl rfl rfl rfl (by decide) (by decide) (by decide) (by rfl) (by rfl) (by rfl) (by intro Y hY; cases hY; rfl)
    exact bm_nil (s := (v3_a, v4_b, v5_sign)) (.same (.same (.same (.same (.same (.unk .nil))))))
  · skip
    exact bm_nil (s := (p_a, p_b, v1_sign)) (.same (.same (.same (.same (.same (.unk .nil))))))
  refine bm_lit [.val p_letters, .val v2_j.1, .val v2_j.2.1, .val p_c, .val v2_j.2.2, .unk] rfl ?_
  refine bm_if (fj := (fun (v7_j : D × D × D) => [.val p_letters, .val v2_j.1, .val v7_j.1, .val v7_j.2.1, .val v7_j.2.2, .unk])) (tm_cmp ok_gt rm_gt (em_var 2 rfl rfl rfl) (em_var 3 rfl rfl rfl) (nomark _)) .nil ?_ ?_ (fun v7_j => ?_)
  · skip
    refine bm_lit [.val p_letters, .val v2_j.1, .val v2_j.2.1, .val p_c, .val v2_j.2.2, .unk] rfl ?_
    refine bm_par3 2 3 4 (am_cons (em_var 3 rfl rfl rfl) (am_cons (em_var 2 rfl rfl rfl) (am_cons (em_neg (em_var 4 rfl rfl rfl)) am_nil))) .nil (fun v8_b v9_c v10_sign => ?_) rfl rfl rfl rfl (by decide) (by decide) (by decide) (by rfl) (by rfl) (by rfl) (by intro Y hY; cases hY; rfl)
    exact bm_nil (s := (v8_b, v9_c, v10_sign)) (.same (.same (.same (.same (.same (.unk .nil))))))
  · skip
    exact bm_nil (s := (v2_j.2.1, p_c, v2_j.2.2)) (.same (.same (.same (.same (.same (.unk .nil))))))
  refine bm_lit [.val p_letters, .val v2_j.1, .val v7_j.1, .val v7_j.2.1, .val v7_j.2.2, .unk] rfl ?_
  refine bm_if (fj := (fun (v12_j : D × D × D) => [.val p_letters, .val v12_j.1, .val v12_j.2.1, .val v7_j.2.1, .val v12_j.2.2, .unk])) (tm_cmp ok_gt rm_gt (em_var 1 rfl rfl rfl) (em_var 2 rfl rfl rfl) (nomark _)) .nil ?_ ?_ (fun v12_j => ?_)
  · skip
    refine bm_lit [.val p_letters, .val v2_j.1, .val v7_j.1, .val v7_j.2.1, .val v7_j.2.2, .unk] rfl ?_
    refine bm_par3 1 2 4 (am_cons (em_var 2 rfl rfl rfl) (am_cons (em_var 1 rfl rfl rfl) (am_cons (em_neg (em_var 4 rfl rfl rfl)) am_nil))) .nil (fun v13_a v14_b v15_sign => ?_) rfl rfl rfl rfl (by decide) (by decide) (by decide) (by rfl) (by rfl) (by rfl) (by intro Y hY; cases hY; rfl)
    exact bm_nil (s := (v13_a, v14_b, v15_sign)) (.same (.same (.same (.same (.same (.unk .nil))))))
  · skip
    exact bm_nil (s := (v2_j.1, v7_j.1, v7_j.2.2)) (.same (.same (.same (.same (.same (.unk .nil))))))
  refine bm_lit [.val p_letters, .val v12_j.1, .val v12_j.2.1, .val v7_j.2.1, .val v12_j.2.2, .unk] rfl ?_
  refine bm_asg 5 (gm_set 5 rfl rfl (em_ix (em_var 0 rfl rfl rfl) (em_call k_position rfl (by rfl) (am_cons (em_var 1 rfl rfl rfl) (am_cons (em_var 2 rfl rfl rfl) (am_cons (em_var 3 rfl rfl rfl) am_nil)))) (fun _ _ => rfl))) .nil fun v17_letter => ?_
  refine bm_lit [.val p_letters, .val v12_j.1, .val v12_j.2.1, .val v7_j.2.1, .val v12_j.2.2, .val v17_letter] rfl ?_
  refine bm_ifl (tm_cmp ok_eq rm_eq (em_var 5 rfl rfl rfl) em_str (nomark _)) .nil ?_ ?_ ?_
  · skip
    refine bm_lit [.val p_letters, .val v12_j.1, .val v12_j.2.1, .val v7_j.2.1, .val v12_j.2.2, .val v17_letter] rfl ?_
    exact bm_ret (he := em_int) .nil
  · repeat (first | exact noNx_ret | exact noNx_exn | exact noNx_stk | exact noNx_exnF | refine noNx_bindC (fun _ => ?_) | refine noNx_bind (fun _ => ?_) | refine noNx_ite ?_ ?_ | (dsimp only))
  refine bm_lit [.val p_letters, .val v12_j.1, .val v12_j.2.1, .val v7_j.2.1, .val v12_j.2.2, .val v17_letter] rfl ?_
  exact bm_ret (he := em_if (tm_cmp ok_eq rm_eq (em_var 5 rfl rfl rfl) em_str (nomark _)) (em_var 4 rfl rfl rfl) (em_neg (em_var 4 rfl rfl rfl))) .nil
/-! ### breaks_five -/
abbrev s_breaks_five : Stmt := topS 14
theorem sc_breaks_five : FnScope ["letters", "x", "a", "b", "c", "d", "first", "second", "third"] ["letters", "x", "a", "b", "c", "d"] (defScope s_breaks_five) := ⟨rfl, rfl, rfl, by decide +kernel, rfl, by decide +kernel, by decide +kernel⟩
theorem ok_breaks_five {G : GG} {f : Addr} {fd : FuncData} (Fn : Fun G.K "breaks_five" "breaks_five" s_breaks_five f fd) (k_turn_of : Kn G 2 "turn_of" m_turn_of) : FnOk G.P G.w G.K G.mg G.base (L2.CX G.P G.w) 3 f fd ["letters", "x", "a", "b", "c", "d"] (spM G m_breaks_five) := by
  refine fn_ok [true, true, true, true, true, true, true, true, true] _ Fn sc_breaks_five (by decide +kernel) rfl ar6_len (fun cdv A outer s H E hr ds hl => ?_)
  obtain ⟨p_letters, p_x, p_a, p_b, p_c, p_d, rfl⟩ := len6 hl
  refine ⟨c_breaks_five p_letters p_x p_a p_b p_c p_d, rfl, ?_⟩
  unfold c_breaks_five
  refine bm_lit [.val p_letters, .val p_x, .val p_a, .val p_b, .val p_c, .val p_d, .unk, .unk, .unk] rfl ?_
  refine bm_asg 6 (gm_set 6 rfl rfl (em_mul (em_call k_turn_of rfl (by rfl) (am_cons (em_var 0 rfl rfl rfl) (am_cons (em_var 1 rfl rfl rfl) (am_cons (em_var 2 rfl rfl rfl) (am_cons (em_var 3 rfl rfl rfl) am_nil))))) (em_call k_turn_of rfl (by rfl) (am_cons (em_var 0 rfl rfl rfl) (am_cons (em_var 1 rfl rfl rfl) (am_cons (em_var 4 rfl rfl rfl) (am_cons (em_var 5 rfl rfl rfl) am_nil))))))) .nil fun v1_first => ?_
  refine bm_lit [.val p_letters, .val p_x, .val p_a, .val p_b, .val p_c, .val p_d, .val v1_first, .unk, .unk] rfl ?_
  refine bm_asg 7 (gm_set 7 rfl rfl (em_mul (em_neg (em_call k_turn_of rfl (by rfl) (am_cons (em_var 0 rfl rfl rfl) (am_cons (em_var 1 rfl rfl rfl) (am_cons (em_var 2 rfl rfl rfl) (am_cons (em_var 4 rfl rfl rfl) am_nil)))))) (em_call k_turn_of rfl (by rfl) (am_cons (em_var 0 rfl rfl rfl) (am_cons (em_var 1 rfl rfl rfl) (am_cons (em_var 3 rfl rfl rfl) (am_cons (em_var 5 rfl rfl rfl) am_nil))))))) .nil fun v2_second => ?_
  refine bm_lit [.val p_letters, .val p_x, .val p_a, .val p_b, .val p_c, .val p_d, .val v1_first, .val v2_second, .unk] rfl ?_
  refine bm_asg 8 (gm_set 8 rfl rfl (em_mul (em_call k_turn_of rfl (by rfl) (am_cons (em_var 0 rfl rfl rfl) (am_cons (em_var 1 rfl rfl rfl) (am_cons (em_var 2 rfl rfl rfl) (am_cons (em_var 5 rfl rfl rfl) am_nil))))) (em_call k_turn_of rfl (by rfl) (am_cons (em_var 0 rfl rfl rfl) (am_cons (em_var 1 rfl rfl rfl) (am_cons (em_var 3 rfl rfl rfl) (am_cons (em_var 4 rfl rfl rfl) am_nil))))))) .nil fun v3_third => ?_
  refine bm_lit [.val p_letters, .val p_x, .val p_a, .val p_b, .val p_c, .val p_d, .val v1_first, .val v2_second, .val v3_third] rfl ?_
  exact bm_ret (he := em_chain3 ok_eq rm_eq ok_eq rm_eq ok_ne rm_ne (em_var 6 rfl rfl rfl) (em_var 7 rfl rfl rfl) (em_var 8 rfl rfl rfl) em_int) .nil
/-! ### threes -/
abbrev s_threes : Stmt := topS 10
theorem sc_threes : FnScope ["posts", "c", "b", "a"] ["posts"] (defScope s_threes) := ⟨rfl, rfl, rfl, by decide +kernel, rfl, by decide +kernel, by decide +kernel⟩
theorem ok_threes {G : GG} {f : Addr} {fd : FuncData} (Fn : Fun G.K "threes" "threes" s_threes f fd) (B : Bi G) : FnOk G.P G.w G.K G.mg G.base (L2.CX G.P G.w) 1 f fd ["posts"] (spM G m_threes) := by
  refine fn_ok [true, false, false, false] _ Fn sc_threes (by decide +kernel) rfl ar1_len (fun cdv A outer s H E hr ds hl => ?_)
  obtain ⟨p_posts, rfl⟩ := len1 hl
  refine ⟨c_threes p_posts, rfl, ?_⟩
  unfold c_threes
  refine bm_lit [.val p_posts, .unk, .unk, .unk] rfl ?_
  exact bm_ret (he := em_lc3 (L1 := [false, false, true, true]) (vs1 := [2, 3]) (L2 := [false, false, false, true]) (vs2 := [3]) (blkF_of ["posts", "c", "b", "a"] (defScope s_threes).names rfl rfl (by decide +kernel) : BlkF _ _ [("c", 1), ("b", 2), ("a", 3)] [false, true, true, true] [false, true, true, true] _) (by decide +kernel) (by decide +kernel) (by decide +kernel) (by decide +kernel) (by decide +kernel) (by decide +kernel) rfl (im_range1 (by rfl) B.f_range (am_cons (em_var 0 rfl rfl rfl) am_nil)) (tg_name 1 rfl rfl) (tg_name 2 rfl rfl) (tg_name 3 rfl rfl) (fun v1_c => .inl (⟨[.val p_posts, .val v1_c, .unk, .unk], _, _, rfl, ifm_nil, ⟨_, _, im_range1 (by rfl) B.f_range (am_cons (em_var 1 rfl rfl rfl) am_nil), fun v2_b => .inl (⟨[.val p_posts, .val v1_c, .val v2_b, .unk], _, _, rfl, ifm_nil, ⟨_, _, im_range1 (by rfl) B.f_range (am_cons (em_var 2 rfl rfl rfl) am_nil), fun v3_a => .inl (⟨[.val p_posts, .val v1_c, .val v2_b, .val v3_a], _, _, rfl, ifm_nil, ⟨_, em_tup (am_cons (em_var 3 rfl rfl rfl) (am_cons (em_var 2 rfl rfl rfl) (am_cons (em_var 1 rfl rfl rfl) am_nil))), rfl⟩, rfl⟩), rfl⟩, rfl⟩), rfl⟩, rfl⟩))) .nil
/-! ### last_breach -/
abbrev s_last_breach : Stmt := topS 15
theorem sc_last_breach : FnScope ["letters", "a", "b", "c", "w", "four", "p", "q", "r", "v", "x", "s", "post"] ["letters", "a", "b", "c"] (defScope s_last_breach) := ⟨rfl, rfl, rfl, by decide +kernel, rfl, by decide +kernel, by decide +kernel⟩
theorem ok_last_breach {G : GG} {f : Addr} {fd : FuncData} (Fn : Fun G.K "last_breach" "last_breach" s_last_breach f fd) (B : Bi G) (k_breaks_five : Kn G 3 "breaks_five" m_breaks_five) (k_position : Kn G 3 "position" m_position) : FnOk G.P G.w G.K G.mg G.base (L2.CX G.P G.w) 4 f fd ["letters", "a", "b", "c"] (spM G m_last_breach) := by
  refine fn_ok [true, true, true, true, true, true, true, true, true, true, true, true, false] _ Fn sc_last_breach (by decide +kernel) rfl ar4_len (fun cdv A outer s H E hr ds hl => ?_)
  obtain ⟨p_letters, p_a, p_b, p_c, rfl⟩ := len4 hl
  refine ⟨c_last_breach p_letters p_a p_b p_c, rfl, ?_⟩
  unfold c_last_breach
  refine bm_lit [.val p_letters, .val p_a, .val p_b, .val p_c, .unk, .unk, .unk, .unk, .unk, .unk, .unk, .unk, .unk] rfl ?_
  refine bm_for (T := Unit) (fj := (fun (v1_j : Unit) => [.val p_letters, .val p_a, .val p_b, .val p_c, .unk, .unk, .unk, .unk, .unk, .unk, .unk, .unk, .unk])) (j0 := ()) (im_range1 (by rfl) B.f_range (am_cons (em_var 1 rfl rfl rfl) am_nil)) .nil (.same (.same (.same (.same (.unk (.unk (.unk (.unk (.unk (.unk (.unk (.unk (.unk .nil))))))))))))) rfl (tg_name 4 rfl rfl) (fun v2_w v1_j => ?_) (fun v1_j => ?_) rfl
  · skip
    refine .inl ⟨_, rfl, ?_⟩
    refine bm_lit [.val p_letters, .val p_a, .val p_b, .val p_c, .val v2_w, .unk, .unk, .unk, .unk, .unk, .unk, .unk, .unk] rfl ?_
    refine bm_asg 5 (gm_set 5 rfl rfl (em_lst (am_cons (em_tup (am_cons (em_var 4 rfl rfl rfl) (am_cons (em_var 1 rfl rfl rfl) (am_cons (em_var 2 rfl rfl rfl) am_nil)))) (am_cons (em_tup (am_cons (em_var 4 rfl rfl rfl) (am_cons (em_var 1 rfl rfl rfl) (am_cons (em_var 3 rfl rfl rfl) am_nil)))) (am_cons (em_tup (am_cons (em_var 4 rfl rfl rfl) (am_cons (em_var 2 rfl rfl rfl) (am_cons (em_var 3 rfl rfl rfl) am_nil)))) (am_cons (em_tup (am_cons (em_var 1 rfl rfl rfl) (am_cons (em_var 2 rfl rfl rfl) (am_cons (em_var 3 rfl rfl rfl) am_nil)))) am_nil)))))) .nil fun v3_four => ?_
    refine bm_lit [.val p_letters, .val p_a, .val p_b, .val p_c, .val v2_w, .val v3_four, .unk, .unk, .unk, .unk, .unk, .unk, .unk] rfl ?_
    refine bm_ifl (tm_cmp ok_in rm_mem (em_join em_str (em_lc (blkF_of ["letters", "a", "b", "c", "w", "four", "p", "q", "r", "v", "x", "s", "post"] (defScope s_last_breach).names rfl rfl (by decide +kernel) : BlkF _ _ [("p", 6), ("q", 7), ("r", 8)] [true, false, false, false, false, false, true, true, true, false, false, false, false] [false, false, false, false, false, false, true, true, true, false, false, false, false] _) rfl (im_seq (em_var 5 rfl rfl rfl)) (tg_tup 3 (tgs_cons (tg_name 6 rfl rfl) (tgs_cons (tg_name 7 rfl rfl) (tgs_cons (tg_name 8 rfl rfl) (tgs_nil)))) rfl (tgc_len (tgc_len (tgc_len (tgn_len))))) (fun v4_t => (by refine (un3_cs v4_t).elim (fun h => ?_) (fun hz => .inr (hz _ _)); obtain ⟨v5_p, v6_q, v7_r, h⟩ := h; rw [un3_at h, tgTup_at h]; exact .inl (⟨_, _, _, rfl, ifm_nil, em_ix (em_var 0 rfl rfl rfl) (em_call k_position rfl (by rfl) (am_cons (em_var 6 rfl rfl rfl) (am_cons (em_var 7 rfl rfl rfl) (am_cons (em_var 8 rfl rfl rfl) am_nil)))) (fun _ _ => rfl), rfl⟩))))) (em_tup (am_cons em_str (am_cons em_str am_nil))) (by with_unfolding_all rfl)) .nil ?_ ?_ ?_
    · skip
      refine bm_lit [.val p_letters, .val p_a, .val p_b, .val p_c, .val v2_w, .val v3_four, .unk, .unk, .unk, .unk, .unk, .unk, .unk] rfl ?_
      exact bm_ret (he := em_tup (am_cons (em_var 4 rfl rfl rfl) (am_cons (em_var 1 rfl rfl rfl) (am_cons (em_var 2 rfl rfl rfl) (am_cons (em_var 3 rfl rfl rfl) am_nil))))) .nil
    · repeat (first | exact noNx_ret | exact noNx_exn | exact noNx_stk | exact noNx_exnF | refine noNx_bindC (fun _ => ?_) | refine noNx_bind (fun _ => ?_) | refine noNx_ite ?_ ?_ | (dsimp only))
    exact bm_nil (s := ()) (.same (.same (.same (.same (.unk (.unk (.unk (.unk (.unk (.unk (.unk (.unk (.unk .nil)))))))))))))
  refine bm_lit [.val p_letters, .val p_a, .val p_b, .val p_c, .unk, .unk, .unk, .unk, .unk, .unk, .unk, .unk, .unk] rfl ?_
  refine bm_for (T := Unit) (fj := (fun (v8_j : Unit) => [.val p_letters, .val p_a, .val p_b, .val p_c, .unk, .unk, .unk, .unk, .unk, .unk, .unk, .unk, .unk])) (j0 := ()) (im_range1 (by rfl) B.f_range (am_cons (em_var 1 rfl rfl rfl) am_nil)) .nil (.same (.same (.same (.same (.unk (.unk (.unk (.unk (.unk (.unk (.unk (.unk (.unk .nil))))))))))))) rfl (tg_name 4 rfl rfl) (fun v9_w v8_j => ?_) (fun v8_j => ?_) rfl
  · skip
    refine .inl ⟨_, rfl, ?_⟩
    refine bm_lit [.val p_letters, .val p_a, .val p_b, .val p_c, .val v9_w, .unk, .unk, .unk, .unk, .unk, .unk, .unk, .unk] rfl ?_
    refine bm_for (T := Unit) (fj := (fun (v10_j : Unit) => [.val p_letters, .val p_a, .val p_b, .val p_c, .val v9_w, .unk, .unk, .unk, .unk, .unk, .unk, .unk, .unk])) (j0 := ()) (im_range1 (by rfl) B.f_range (am_cons (em_var 4 rfl rfl rfl) am_nil)) .nil (.same (.same (.same (.same (.same (.unk (.unk (.unk (.unk (.unk (.unk (.unk (.unk .nil))))))))))))) rfl (tg_name 9 rfl rfl) (fun v11_v v10_j => ?_) (fun v10_j => ?_) rfl
    · skip
      refine .inl ⟨_, rfl, ?_⟩
      refine bm_lit [.val p_letters, .val p_a, .val p_b, .val p_c, .val v9_w, .unk, .unk, .unk, .unk, .val v11_v, .unk, .unk, .unk] rfl ?_
      refine bm_for (T := Unit) (fj := (fun (v12_j : Unit) => [.val p_letters, .val p_a, .val p_b, .val p_c, .val v9_w, .unk, .unk, .unk, .unk, .val v11_v, .unk, .unk, .unk])) (j0 := ()) (im_seq (em_tup (am_cons (em_var 9 rfl rfl rfl) (am_cons (em_var 4 rfl rfl rfl) (am_cons (em_var 1 rfl rfl rfl) (am_cons (em_var 2 rfl rfl rfl) (am_cons (em_var 3 rfl rfl rfl) am_nil))))))) .nil (.same (.same (.same (.same (.same (.unk (.unk (.unk (.unk (.same (.unk (.unk (.unk .nil))))))))))))) rfl (tg_name 10 rfl rfl) (fun v13_x v12_j => ?_) (fun v12_j => ?_) rfl
      · skip
        refine .inl ⟨_, rfl, ?_⟩
        refine bm_lit [.val p_letters, .val p_a, .val p_b, .val p_c, .val v9_w, .unk, .unk, .unk, .unk, .val v11_v, .val v13_x, .unk, .unk] rfl ?_
        refine bm_asgT (em_lc (blkF_of ["letters", "a", "b", "c", "w", "four", "p", "q", "r", "v", "x", "s", "post"] (defScope s_last_breach).names rfl rfl (by decide +kernel) : BlkF _ _ [("post", 12)] [false, false, false, false, false, false, false, false, false, false, true, false, true] [false, false, false, false, false, false, false, false, false, false, false, false, true] _) rfl (im_seq (em_tup (am_cons (em_var 9 rfl rfl rfl) (am_cons (em_var 4 rfl rfl rfl) (am_cons (em_var 1 rfl rfl rfl) (am_cons (em_var 2 rfl rfl rfl) (am_cons (em_var 3 rfl rfl rfl) am_nil))))))) (tg_name 12 rfl rfl) (fun v14_post => .inl (⟨_, _, _, rfl, ifm_one (tm_cmp ok_ne rm_ne (em_var 12 rfl rfl rfl) (em_var 10 rfl rfl rfl) (nomark _)), em_var 12 rfl rfl rfl, rfl⟩))) (tg_tup 4 (tgs_cons (tg_name 6 rfl rfl) (tgs_cons (tg_name 7 rfl rfl) (tgs_cons (tg_name 8 rfl rfl) (tgs_cons (tg_name 11 rfl rfl) (tgs_nil))))) rfl (tgc_len (tgc_len (tgc_len (tgc_len (tgn_len)))))) .nil (fun v15_t => ?_)
        refine (un4_cs v15_t).elim (fun h => ?_) (fun hz => .inr (hz _ _))
        obtain ⟨v16_p, v17_q, v18_r, v19_s, h⟩ := h
        rw [un4_at h, tgTup_at h]
        refine .inl ⟨_, rfl, ?_⟩
        refine bm_lit [.val p_letters, .val p_a, .val p_b, .val p_c, .val v9_w, .unk, .val v16_p, .val v17_q, .val v18_r, .val v11_v, .val v13_x, .val v19_s, .unk] rfl ?_
        refine bm_ifl (tm_val (em_call k_breaks_five rfl (by rfl) (am_cons (em_var 0 rfl rfl rfl) (am_cons (em_var 10 rfl rfl rfl) (am_cons (em_var 6 rfl rfl rfl) (am_cons (em_var 7 rfl rfl rfl) (am_cons (em_var 8 rfl rfl rfl) (am_cons (em_var 11 rfl rfl rfl) am_nil))))))) (fun _ _ _ => rfl)) .nil ?_ ?_ ?_
        · skip
          refine bm_lit [.val p_letters, .val p_a, .val p_b, .val p_c, .val v9_w, .unk, .val v16_p, .val v17_q, .val v18_r, .val v11_v, .val v13_x, .val v19_s, .unk] rfl ?_
          exact bm_ret (he := em_tup (am_cons (em_var 10 rfl rfl rfl) (am_cons (em_var 6 rfl rfl rfl) (am_cons (em_var 7 rfl rfl rfl) (am_cons (em_var 8 rfl rfl rfl) (am_cons (em_var 11 rfl rfl rfl) am_nil)))))) .nil
        · repeat (first | exact noNx_ret | exact noNx_exn | exact noNx_stk | exact noNx_exnF | refine noNx_bindC (fun _ => ?_) | refine noNx_bind (fun _ => ?_) | refine noNx_ite ?_ ?_ | (dsimp only))
        exact bm_nil (s := ()) (.same (.same (.same (.same (.same (.unk (.unk (.unk (.unk (.same (.unk (.unk (.unk .nil)))))))))))))
      exact bm_nil (s := ()) (.same (.same (.same (.same (.same (.unk (.unk (.unk (.unk (.unk (.unk (.unk (.unk .nil)))))))))))))
    exact bm_nil (s := ()) (.same (.same (.same (.same (.unk (.unk (.unk (.unk (.unk (.unk (.unk (.unk (.unk .nil)))))))))))))
  refine bm_lit [.val p_letters, .val p_a, .val p_b, .val p_c, .unk, .unk, .unk, .unk, .unk, .unk, .unk, .unk, .unk] rfl ?_
  exact bm_ret (he := em_non) .nil
/-! ### breach -/
abbrev s_breach : Stmt := topS 16
theorem sc_breach : FnScope ["letters", "posts", "a", "b", "c", "found"] ["letters", "posts"] (defScope s_breach) := ⟨rfl, rfl, rfl, by decide +kernel, rfl, by decide +kernel, by decide +kernel⟩
theorem ok_breach {G : GG} {f : Addr} {fd : FuncData} (Fn : Fun G.K "breach" "breach" s_breach f fd) (k_last_breach : Kn G 4 "last_breach" m_last_breach) (k_threes : Kn G 4 "threes" m_threes) : FnOk G.P G.w G.K G.mg G.base (L2.CX G.P G.w) 5 f fd ["letters", "posts"] (spM G m_breach) := by
  refine fn_ok [true, true, true, true, true, true] _ Fn sc_breach (by decide +kernel) rfl ar2_len (fun cdv A outer s H E hr ds hl => ?_)
  obtain ⟨p_letters, p_posts, rfl⟩ := len2 hl
  refine ⟨c_breach p_letters p_posts, rfl, ?_⟩
  unfold c_breach
  refine bm_lit [.val p_letters, .val p_posts, .unk, .unk, .unk, .unk] rfl ?_
  refine bm_for (T := Unit) (fj := (fun (v1_j : Unit) => [.val p_letters, .val p_posts, .unk, .unk, .unk, .unk])) (j0 := ()) (im_seq (em_call k_threes rfl (by rfl) (am_cons (em_var 1 rfl rfl rfl) am_nil))) .nil (.same (.same (.unk (.unk (.unk (.unk .nil)))))) rfl (tg_tup 3 (tgs_cons (tg_name 2 rfl rfl) (tgs_cons (tg_name 3 rfl rfl) (tgs_cons (tg_name 4 rfl rfl) (tgs_nil)))) rfl (tgc_len (tgc_len (tgc_len (tgn_len))))) (fun v2_t v1_j => ?_) (fun v1_j => ?_) rfl
  · skip
    refine (un3_cs v2_t).elim (fun h => ?_) (fun hz => .inr (hz _ _))
    obtain ⟨v3_a, v4_b, v5_c, h⟩ := h
    rw [un3_at h, tgTup_at h]
    refine .inl ⟨_, rfl, ?_⟩
    refine bm_lit [.val p_letters, .val p_posts, .val v3_a, .val v4_b, .val v5_c, .unk] rfl ?_
    refine bm_asg 5 (gm_set 5 rfl rfl (em_call k_last_breach rfl (by rfl) (am_cons (em_var 0 rfl rfl rfl) (am_cons (em_var 2 rfl rfl rfl) (am_cons (em_var 3 rfl rfl rfl) (am_cons (em_var 4 rfl rfl rfl) am_nil)))))) .nil fun v6_found => ?_
    refine bm_lit [.val p_letters, .val p_posts, .val v3_a, .val v4_b, .val v5_c, .val v6_found] rfl ?_
    refine bm_ifl (tm_cmp ok_isnot rm_isnot (em_var 5 rfl rfl rfl) em_non (nomark _)) .nil ?_ ?_ ?_
    · skip
      refine bm_lit [.val p_letters, .val p_posts, .val v3_a, .val v4_b, .val v5_c, .val v6_found] rfl ?_
      exact bm_ret (he := em_var 5 rfl rfl rfl) .nil
    · repeat (first | exact noNx_ret | exact noNx_exn | exact noNx_stk | exact noNx_exnF | refine noNx_bindC (fun _ => ?_) | refine noNx_bind (fun _ => ?_) | refine noNx_ite ?_ ?_ | (dsimp only))
    exact bm_nil (s := ()) (.same (.same (.unk (.unk (.unk (.unk .nil))))))
  refine bm_lit [.val p_letters, .val p_posts, .unk, .unk, .unk, .unk] rfl ?_
  exact bm_ret (he := em_non) .nil
/-! ### area -/
abbrev s_area : Stmt := topS 29
theorem sc_area : FnScope ["first", "second", "third", "right"] ["first", "second", "third"] (defScope s_area) := ⟨rfl, rfl, rfl, by decide +kernel, rfl, by decide +kernel, by decide +kernel⟩
theorem ok_area {G : GG} {f : Addr} {fd : FuncData} (Fn : Fun G.K "area" "area" s_area f fd) : FnOk G.P G.w G.K G.mg G.base (L2.CX G.P G.w) 1 f fd ["first", "second", "third"] (spM G m_area) := by
  refine fn_ok [true, true, true, true] _ Fn sc_area (by decide +kernel) rfl ar3_len (fun cdv A outer s H E hr ds hl => ?_)
  obtain ⟨p_first, p_second, p_third, rfl⟩ := len3 hl
  refine ⟨c_area p_first p_second p_third, rfl, ?_⟩
  unfold c_area
  refine bm_lit [.val p_first, .val p_second, .val p_third, .unk] rfl ?_
  refine bm_asg 3 (gm_set 3 rfl rfl (em_mul (em_sub (em_ix (em_var 1 rfl rfl rfl) em_int (fun _ _ => rfl)) (em_ix (em_var 0 rfl rfl rfl) em_int (fun _ _ => rfl))) (em_sub (em_ix (em_var 2 rfl rfl rfl) em_int (fun _ _ => rfl)) (em_ix (em_var 0 rfl rfl rfl) em_int (fun _ _ => rfl))))) .nil fun v1_right => ?_
  refine bm_lit [.val p_first, .val p_second, .val p_third, .val v1_right] rfl ?_
  exact bm_ret (he := em_sub (em_var 3 rfl rfl rfl) (em_mul (em_sub (em_ix (em_var 1 rfl rfl rfl) em_int (fun _ _ => rfl)) (em_ix (em_var 0 rfl rfl rfl) em_int (fun _ _ => rfl))) (em_sub (em_ix (em_var 2 rfl rfl rfl) em_int (fun _ _ => rfl)) (em_ix (em_var 0 rfl rfl rfl) em_int (fun _ _ => rfl))))) .nil
/-! ### Table.__init__ -/
abbrev s_Table___init : Stmt := clsS (topS 28) 1
theorem sc_Table___init : FnScope ["self", "letters", "posts", "found"] ["self", "letters"] (defScope s_Table___init) := ⟨rfl, rfl, rfl, by decide +kernel, rfl, by decide +kernel, by decide +kernel⟩
theorem ok_Table___init {G : GG} {f : Addr} {fd : FuncData} (Fn : Fun G.K "__init__" "Table.__init__" s_Table___init f fd) (B : Bi G) (k_breach : Kn G 5 "breach" m_breach) (x_BadInput : ExcK G "BadInput" 1) (tn_str : TyN G "str" [("NoneType", false), ("bool", false), ("int", false), ("str", true), ("list", false), ("tuple", false)] [(1, false)]) (kd_SIZES : KdI G "SIZES" [(1, 3), (4, 4), (10, 5), (20, 6), (35, 7), (56, 8)]) (xf_Quarrel : ExF G 5 "Quarrel" 3 "posts") (fl_1_letters : Fld G 1 "letters") (fl_1_posts : Fld G 1 "posts") : FnOk G.P G.w G.K G.mg G.base (L2.CX G.P G.w) 6 f fd ["self", "letters"] (spI G 1 m_Table___init) := by
  refine init_ok [true, true, true, true] _ Fn sc_Table___init (by decide +kernel) rfl (fun ds h => congrArg (· + 1) (arF1_len ds h)) (fun x cdv A outer s H E hr ds hl => ?_)
  obtain ⟨p_letters, rfl⟩ := len1 (Nat.succ.inj hl)
  refine ⟨c_Table___init p_letters, rfl, ?_⟩
  unfold c_Table___init
  refine bm_lit [.own (.slf x 1 []), .val p_letters, .unk, .unk] rfl ?_
  refine bm_ifl (tm_w (wm_or (tm_not (tm_val (em_isi tn_str (by rfl) B.f_isinstance (by rfl) (em_var 1 rfl rfl rfl)) (fun _ _ _ => rfl))) (wm_or (tm_kdC ok_kdn kd_SIZES (by rfl) (em_len (by rfl) B.f_len (am_cons (em_var 1 rfl rfl rfl) am_nil)) (by with_unfolding_all rfl)) (wm_or1 (tm_cmp ok_ne rm_ne (em_stripC (em_var 1 rfl rfl rfl) em_str) em_str (nomark _)))))) .nil ?_ ?_ ?_
  · skip
    refine bm_lit [.own (.slf x 1 []), .val p_letters, .unk, .unk] rfl ?_
    exact bm_raise x_BadInput rfl (by rfl) .nil
  · repeat (first | exact noNx_ret | exact noNx_exn | exact noNx_stk | exact noNx_exnF | refine noNx_bindC (fun _ => ?_) | refine noNx_bind (fun _ => ?_) | refine noNx_ite ?_ ?_ | (dsimp only))
  refine bm_lit [.own (.slf x 1 []), .val p_letters, .unk, .unk] rfl ?_
  refine bm_asg 2 (gm_set 2 rfl rfl (em_kdIx kd_SIZES (by rfl) (em_len (by rfl) B.f_len (am_cons (em_var 1 rfl rfl rfl) am_nil)) (fun _ _ => rfl))) .nil fun v1_posts => ?_
  refine bm_lit [.own (.slf x 1 []), .val p_letters, .val v1_posts, .unk] rfl ?_
  refine bm_asg 3 (gm_set 3 rfl rfl (em_call k_breach rfl (by rfl) (am_cons (em_var 1 rfl rfl rfl) (am_cons (em_var 2 rfl rfl rfl) am_nil)))) .nil fun v2_found => ?_
  refine bm_lit [.own (.slf x 1 []), .val p_letters, .val v1_posts, .val v2_found] rfl ?_
  refine bm_ifl (tm_cmp ok_isnot rm_isnot (em_var 3 rfl rfl rfl) em_non (nomark _)) .nil ?_ ?_ ?_
  · skip
    refine bm_lit [.own (.slf x 1 []), .val p_letters, .val v1_posts, .val v2_found] rfl ?_
    exact bm_raiseF xf_Quarrel rfl (by rfl) (am_cons (em_var 3 rfl rfl rfl) am_nil) .nil
  · repeat (first | exact noNx_ret | exact noNx_exn | exact noNx_stk | exact noNx_exnF | refine noNx_bindC (fun _ => ?_) | refine noNx_bind (fun _ => ?_) | refine noNx_ite ?_ ?_ | (dsimp only))
  refine bm_lit [.own (.slf x 1 []), .val p_letters, .val v1_posts, .val v2_found] rfl ?_
  refine bm_fset 0 fl_1_letters rfl rfl rfl (em_var 1 rfl rfl rfl) .nil (fun v3_self => ?_)
  refine bm_lit [.own (.slf x 1 v3_self), .val p_letters, .val v1_posts, .val v2_found] rfl ?_
  refine bm_fset 0 fl_1_posts rfl rfl rfl (em_var 2 rfl rfl rfl) .nil (fun v4_self => ?_)
  exact bm_nil (s := v4_self) (.same (.unk (.unk (.unk .nil))))
/-! ### Table.__eq__ -/
abbrev s_Table___eq : Stmt := clsS (topS 28) 6
theorem sc_Table___eq : FnScope ["self", "other"] ["self", "other"] (defScope s_Table___eq) := ⟨rfl, rfl, rfl, by decide +kernel, rfl, by decide +kernel, by decide +kernel⟩
theorem ok_Table___eq {G : GG} {f : Addr} {fd : FuncData} (Fn : Fun G.K "__eq__" "Table.__eq__" s_Table___eq f fd) (B : Bi G) (tn_Table : TyN G "Table" [("NoneType", false), ("bool", false), ("int", false), ("str", false), ("list", false), ("tuple", false)] [(1, true)]) (fl_1_posts : Fld G 1 "posts") (fl_1_letters : Fld G 1 "letters") : FnOk G.P G.w G.K G.mg G.base (L2.CX G.P G.w) 1 f fd ["self", "other"] (spM G m_Table___eq) := by
  refine fn_ok [true, true] _ Fn sc_Table___eq (by decide +kernel) rfl ar2_len (fun cdv A outer s H E hr ds hl => ?_)
  obtain ⟨p_self, p_other, rfl⟩ := len2 hl
  refine ⟨c_Table___eq p_self p_other, rfl, ?_⟩
  unfold c_Table___eq
  refine bm_lit [.val p_self, .val p_other] rfl ?_
  exact bm_ret (he := em_and (em_isi tn_Table (by rfl) B.f_isinstance (by rfl) (em_var 1 rfl rfl rfl)) (em_and (em_cmp ok_eq rm_eq (em_fld fl_1_posts (em_var 0 rfl rfl rfl)) (em_fld fl_1_posts (em_var 1 rfl rfl rfl)) (nomark _)) (em_one (em_cmp ok_eq rm_eq (em_fld fl_1_letters (em_var 0 rfl rfl rfl)) (em_fld fl_1_letters (em_var 1 rfl rfl rfl)) (nomark _))))) .nil
/-! ### Table.placed -/
abbrev s_Table_placed : Stmt := clsS (topS 28) 2
theorem sc_Table_placed : FnScope ["places", "areas", "a", "b", "c", "flat", "three", "size"] ["places"] (defScope s_Table_placed) := ⟨rfl, rfl, rfl, by decide +kernel, rfl, by decide +kernel, by decide +kernel⟩
theorem ok_Table_placed {G : GG} {f : Addr} {fd : FuncData} (Fn : Fun G.K "placed" "Table.placed" s_Table_placed f fd) (B : Bi G) (k_area : Kn G 7 "area" m_area) (k_threes : Kn G 7 "threes" m_threes) (x_BadInput : ExcK G "BadInput" 1) (ci_Table_MOST_POSTS : CInt G "Table" "MOST_POSTS" 8) (xf_InLine : ExF G 7 "InLine" 2 "posts") (mk_Table : MkK G 7 1 "Table" m_Table___init) : FnOk G.P G.w G.K G.mg G.base (L2.CX G.P G.w) 8 f fd ["places"] (spM G m_Table_placed) := by
  refine fn_ok [true, true, false, false, false, true, false, false] _ Fn sc_Table_placed (by decide +kernel) rfl ar1_len (fun cdv A outer s H E hr ds hl => ?_)
  obtain ⟨p_places, rfl⟩ := len1 hl
  refine ⟨c_Table_placed p_places, rfl, ?_⟩
  unfold c_Table_placed
  refine bm_lit [.val p_places, .unk, .unk, .unk, .unk, .unk, .unk, .unk] rfl ?_
  refine bm_ifl (tm_not (tm_chain ok_le rm_le ok_le rm_le em_int (em_len (by rfl) B.f_len (am_cons (em_var 0 rfl rfl rfl) am_nil)) (em_cint ci_Table_MOST_POSTS (by rfl)))) .nil ?_ ?_ ?_
  · skip
    refine bm_lit [.val p_places, .unk, .unk, .unk, .unk, .unk, .unk, .unk] rfl ?_
    exact bm_raise x_BadInput rfl (by rfl) .nil
  · repeat (first | exact noNx_ret | exact noNx_exn | exact noNx_stk | exact noNx_exnF | refine noNx_bindC (fun _ => ?_) | refine noNx_bind (fun _ => ?_) | refine noNx_ite ?_ ?_ | (dsimp only))
  refine bm_lit [.val p_places, .unk, .unk, .unk, .unk, .unk, .unk, .unk] rfl ?_
  refine bm_asg 1 (gm_lc 1 rfl  (blkF_of ["places", "areas", "a", "b", "c", "flat", "three", "size"] (defScope s_Table_placed).names rfl rfl (by decide +kernel) : BlkF _ _ [("a", 2), ("b", 3), ("c", 4)] [true, false, true, true, true, false, false, false] [false, false, true, true, true, false, false, false] _) rfl (im_seq (em_call k_threes rfl (by rfl) (am_cons (em_len (by rfl) B.f_len (am_cons (em_var 0 rfl rfl rfl) am_nil)) am_nil))) (tg_tup 3 (tgs_cons (tg_name 2 rfl rfl) (tgs_cons (tg_name 3 rfl rfl) (tgs_cons (tg_name 4 rfl rfl) (tgs_nil)))) rfl (tgc_len (tgc_len (tgc_len (tgn_len))))) (fun v2_t => (by refine (un3_cs v2_t).elim (fun h => ?_) (fun hz => .inr (hz _ _)); obtain ⟨v3_a, v4_b, v5_c, h⟩ := h; rw [un3_at h, tgTup_at h]; exact .inl (⟨_, _, _, rfl, ifm_nil, em_call k_area rfl (by rfl) (am_cons (em_ix (em_var 0 rfl rfl rfl) (em_var 2 rfl rfl rfl) (fun _ _ => rfl)) (am_cons (em_ix (em_var 0 rfl rfl rfl) (em_var 3 rfl rfl rfl) (fun _ _ => rfl)) (am_cons (em_ix (em_var 0 rfl rfl rfl) (em_var 4 rfl rfl rfl) (fun _ _ => rfl)) am_nil))), rfl⟩))) rfl rfl rfl (by rfl)) .nil fun v1_areas => ?_
  refine bm_lit [.val p_places, .val v1_areas, .unk, .unk, .unk, .unk, .unk, .unk] rfl ?_
  refine bm_asg 5 (gm_set 5 rfl rfl (em_sortedT 3 (by rfl) B.f_sorted (am_cons (em_lc (blkF_of ["places", "areas", "a", "b", "c", "flat", "three", "size"] (defScope s_Table_placed).names rfl rfl (by decide +kernel) : BlkF _ _ [("three", 6), ("size", 7)] [false, false, false, false, false, false, true, true] [false, false, false, false, false, false, true, true] _) rfl (im_zip (by rfl) B.f_zip (am_cons (em_call k_threes rfl (by rfl) (am_cons (em_len (by rfl) B.f_len (am_cons (em_var 0 rfl rfl rfl) am_nil)) am_nil)) (am_cons (em_var 1 rfl rfl rfl) am_nil))) (tg_tup 2 (tgs_cons (tg_name 6 rfl rfl) (tgs_cons (tg_name 7 rfl rfl) (tgs_nil))) rfl (tgc_len (tgc_len (tgn_len)))) (fun v7_t => (by refine (un2_cs v7_t).elim (fun h => ?_) (fun hz => .inr (hz _ _)); obtain ⟨v8_three, v9_size, h⟩ := h; rw [un2_at h, tgTup_at h]; exact .inl (⟨_, _, _, rfl, ifm_one (tm_cmp ok_eq rm_eq (em_var 7 rfl rfl rfl) em_int (nomark _)), em_var 6 rfl rfl rfl, rfl⟩)))) am_nil))) .nil fun v6_flat => ?_
  refine bm_lit [.val p_places, .val v1_areas, .unk, .unk, .unk, .val v6_flat, .unk, .unk] rfl ?_
  refine bm_ifl (tm_val (em_var 5 rfl rfl rfl) (fun _ _ _ => rfl)) .nil ?_ ?_ ?_
  · skip
    refine bm_lit [.val p_places, .val v1_areas, .unk, .unk, .unk, .val v6_flat, .unk, .unk] rfl ?_
    exact bm_raiseF xf_InLine rfl (by rfl) (am_cons (em_ix (em_var 5 rfl rfl rfl) em_int (fun _ _ => rfl)) am_nil) .nil
  · repeat (first | exact noNx_ret | exact noNx_exn | exact noNx_stk | exact noNx_exnF | refine noNx_bindC (fun _ => ?_) | refine noNx_bind (fun _ => ?_) | refine noNx_ite ?_ ?_ | (dsimp only))
  refine bm_lit [.val p_places, .val v1_areas, .unk, .unk, .unk, .val v6_flat, .unk, .unk] rfl ?_
  exact bm_ret (he := em_make mk_Table rfl (by rfl) (am_cons (em_join em_str (em_lc (blkF_of ["places", "areas", "a", "b", "c", "flat", "three", "size"] (defScope s_Table_placed).names rfl rfl (by decide +kernel) : BlkF _ _ [("size", 7)] [false, false, false, false, false, false, false, true] [false, false, false, false, false, false, false, true] _) rfl (im_seq (em_var 1 rfl rfl rfl)) (tg_name 7 rfl rfl) (fun v10_size => .inl (⟨_, _, _, rfl, ifm_nil, em_if (tm_cmp ok_gt rm_gt (em_var 7 rfl rfl rfl) em_int (nomark _)) em_str em_str, rfl⟩)))) am_nil)) .nil
/-! ### _law_pool -/
abbrev s_l_pool : Stmt := topS 31
theorem sc_l_pool : FnScope ["_law_script", "_law_pool_here", "_law_cell", "_law_rest", "_law_k", "_law_mixed"] ["_law_script"] (defScope s_l_pool) := ⟨rfl, rfl, rfl, by decide +kernel, rfl, by decide +kernel, by decide +kernel⟩
theorem ok_l_pool {G : GG} {f : Addr} {fd : FuncData} (Fn : Fun G.K "_law_pool" "_law_pool" s_l_pool f fd) (B : Bi G) : FnOk G.P G.w G.K G.mg G.base (L2.CX G.P G.w) 1 f fd ["_law_script"] (spM G m_l_pool) := by
  refine fn_ok [true, true, true, true, true, true] _ Fn sc_l_pool (by decide +kernel) rfl ar1_len (fun cdv A outer s H E hr ds hl => ?_)
  obtain ⟨p_script, rfl⟩ := len1 hl
  refine ⟨c_l_pool p_script, rfl, ?_⟩
  unfold c_l_pool
  refine bm_lit [.val p_script, .unk, .unk, .unk, .unk, .unk] rfl ?_
  refine bm_asgO 1 (gf_set 1 rfl rfl (fe_lst (am_nil))) .nil fun v1_pool_here => ?_
  refine bm_lit [.val p_script, .own v1_pool_here, .unk, .unk, .unk, .unk] rfl ?_
  refine bm_for (T := Unit) (fj := (fun (v2_j : D) => [.val p_script, .own v2_j, .unk, .unk, .unk, .unk])) (j0 := v1_pool_here) (im_seq (em_var 0 rfl rfl rfl)) .nil (.same (.same (.unk (.unk (.unk (.unk .nil)))))) rfl (tg_name 2 rfl rfl) (fun v3_cell v2_j => ?_) (fun v2_j => ?_) rfl
  · skip
    refine .inl ⟨_, rfl, ?_⟩
    refine bm_lit [.val p_script, .own v2_j, .val v3_cell, .unk, .unk, .unk] rfl ?_
    refine bm_asg 3 (gm_set 3 rfl rfl (em_var 2 rfl rfl rfl)) .nil fun v4_rest => ?_
    refine bm_lit [.val p_script, .own v2_j, .val v3_cell, .val v4_rest, .unk, .unk] rfl ?_
    refine bm_if (fj := (fun (v5_j : D) => [.val p_script, .own v5_j, .val v3_cell, .unk, .unk, .unk])) (tm_cmp ok_ge rm_ge (em_var 2 rfl rfl rfl) (em_pow em_int em_int) (nomark _)) .nil ?_ ?_ (fun v5_j => ?_)
    · skip
      refine bm_lit [.val p_script, .own v2_j, .val v3_cell, .val v4_rest, .unk, .unk] rfl ?_
      refine bm_for (T := Unit) (fj := (fun (v6_j : D × D) => [.val p_script, .own v6_j.1, .val v3_cell, .val v6_j.2, .unk, .unk])) (j0 := (v2_j, v4_rest)) (im_range1 (by rfl) B.f_range (am_cons em_int am_nil)) .nil (.same (.same (.same (.same (.unk (.unk .nil)))))) rfl (tg_name 4 rfl rfl) (fun v7_k v6_j => ?_) (fun v6_j => ?_) rfl
      · skip
        refine .inl ⟨_, rfl, ?_⟩
        refine bm_lit [.val p_script, .own v6_j.1, .val v3_cell, .val v6_j.2, .val v7_k, .unk] rfl ?_
        refine bm_if (fj := (fun (v8_j : D × D) => [.val p_script, .own v8_j.1, .val v3_cell, .val v8_j.2, .val v7_k, .unk])) (tm_cmp ok_gt rm_gt (em_var 3 rfl rfl rfl) em_int (nomark _)) .nil ?_ ?_ (fun v8_j => ?_)
        · skip
          refine bm_lit [.val p_script, .own v6_j.1, .val v3_cell, .val v6_j.2, .val v7_k, .unk] rfl ?_
          refine bm_app 1 rfl (em_mod (em_int_of (by rfl) B.f_int (am_cons (em_var 3 rfl rfl rfl) am_nil)) em_int) .nil (fun v9_pool_here => ?_) (fun t q Y hY => pe_bm PySem.F.plainAttrs_list PySem.F.slot_list_append PySem.F.type_list_append mt_append (pvar 1 rfl rfl Y hY) (pa_cons (q Y hY) pa_nil))
          refine bm_lit [.val p_script, .own v9_pool_here, .val v3_cell, .val v6_j.2, .val v7_k, .unk] rfl ?_
          refine bm_asg 3 (gm_set 3 rfl rfl (em_div (em_var 3 rfl rfl rfl) em_int)) .nil fun v10_rest => ?_
          exact bm_nil (s := (v9_pool_here, v10_rest)) (.same (.same (.same (.same (.same (.unk .nil))))))
        · skip
          exact bm_nil (s := (v6_j.1, v6_j.2)) (.same (.same (.same (.same (.same (.unk .nil))))))
        exact bm_nil (s := (v8_j.1, v8_j.2)) (.same (.same (.same (.same (.unk (.unk .nil))))))
      exact bm_nil (s := v6_j.1) (.same (.same (.same (.unk (.unk (.unk .nil))))))
    · skip
      refine bm_lit [.val p_script, .own v2_j, .val v3_cell, .val v4_rest, .unk, .unk] rfl ?_
      refine bm_for (T := Unit) (fj := (fun (v12_j : D) => [.val p_script, .own v12_j, .val v3_cell, .val v4_rest, .unk, .unk])) (j0 := v2_j) (im_range1 (by rfl) B.f_range (am_cons em_int am_nil)) .nil (.same (.same (.same (.same (.unk (.unk .nil)))))) rfl (tg_name 4 rfl rfl) (fun v13_k v12_j => ?_) (fun v12_j => ?_) rfl
      · skip
        refine .inl ⟨_, rfl, ?_⟩
        refine bm_lit [.val p_script, .own v12_j, .val v3_cell, .val v4_rest, .val v13_k, .unk] rfl ?_
        refine bm_asg 5 (gm_set 5 rfl rfl (em_mod (em_int_of (by rfl) B.f_int (am_cons (em_add (em_add (em_mul (em_var 2 rfl rfl rfl) em_int) (em_mul (em_var 4 rfl rfl rfl) em_int)) em_int) am_nil)) em_int)) .nil fun v14_mixed => ?_
        refine bm_lit [.val p_script, .own v12_j, .val v3_cell, .val v4_rest, .val v13_k, .val v14_mixed] rfl ?_
        refine bm_app 1 rfl (em_div (em_mod (em_int_of (by rfl) B.f_int (am_cons (em_add (em_mul (em_var 5 rfl rfl rfl) em_int) (em_var 4 rfl rfl rfl)) am_nil)) em_int) em_int) .nil (fun v15_pool_here => ?_) (fun t q Y hY => pe_bm PySem.F.plainAttrs_list PySem.F.slot_list_append PySem.F.type_list_append mt_append (pvar 1 rfl rfl Y hY) (pa_cons (q Y hY) pa_nil))
        exact bm_nil (s := v15_pool_here) (.same (.same (.same (.same (.unk (.unk .nil))))))
      exact bm_nil (s := v12_j) (.same (.same (.same (.unk (.unk (.unk .nil))))))
    exact bm_nil (s := v5_j) (.same (.same (.unk (.unk (.unk (.unk .nil))))))
  refine bm_lit [.val p_script, .own v2_j, .unk, .unk, .unk, .unk] rfl ?_
  refine bm_give 1 rfl ?_
  exact bm_ret (he := em_var 1 rfl rfl rfl) .nil
/-! ### _law_draw -/
abbrev s_l_draw : Stmt := topS 32
theorem sc_l_draw : FnScope ["_law_pool_here", "_law_k", "_law_many"] ["_law_pool_here", "_law_k", "_law_many"] (defScope s_l_draw) := ⟨rfl, rfl, rfl, by decide +kernel, rfl, by decide +kernel, by decide +kernel⟩
theorem ok_l_draw {G : GG} {f : Addr} {fd : FuncData} (Fn : Fun G.K "_law_draw" "_law_draw" s_l_draw f fd) (B : Bi G) : FnOk G.P G.w G.K G.mg G.base (L2.CX G.P G.w) 1 f fd ["_law_pool_here", "_law_k", "_law_many"] (spM G m_l_draw) := by
  refine fn_ok [true, true, true] _ Fn sc_l_draw (by decide +kernel) rfl ar3_len (fun cdv A outer s H E hr ds hl => ?_)
  obtain ⟨p_pool_here, p_k, p_many, rfl⟩ := len3 hl
  refine ⟨c_l_draw p_pool_here p_k p_many, rfl, ?_⟩
  unfold c_l_draw
  refine bm_lit [.val p_pool_here, .val p_k, .val p_many] rfl ?_
  refine bm_ifl (tm_cmp ok_lt rm_lt (em_var 1 rfl rfl rfl) (em_len (by rfl) B.f_len (am_cons (em_var 0 rfl rfl rfl) am_nil)) (nomark _)) .nil ?_ ?_ ?_
  · skip
    refine bm_lit [.val p_pool_here, .val p_k, .val p_many] rfl ?_
    exact bm_ret (he := em_mod (em_int_of (by rfl) B.f_int (am_cons (em_ix (em_var 0 rfl rfl rfl) (em_var 1 rfl rfl rfl) (fun _ _ => rfl)) am_nil)) (em_var 2 rfl rfl rfl)) .nil
  · repeat (first | exact noNx_ret | exact noNx_exn | exact noNx_stk | exact noNx_exnF | refine noNx_bindC (fun _ => ?_) | refine noNx_bind (fun _ => ?_) | refine noNx_ite ?_ ?_ | (dsimp only))
  refine bm_lit [.val p_pool_here, .val p_k, .val p_many] rfl ?_
  exact bm_ret (he := em_int) .nil
/-! ### _law_cross -/
abbrev s_l_cross : Stmt := topS 33
theorem sc_l_cross : FnScope ["_law_p", "_law_q", "_law_r"] ["_law_p", "_law_q", "_law_r"] (defScope s_l_cross) := ⟨rfl, rfl, rfl, by decide +kernel, rfl, by decide +kernel, by decide +kernel⟩
theorem ok_l_cross {G : GG} {f : Addr} {fd : FuncData} (Fn : Fun G.K "_law_cross" "_law_cross" s_l_cross f fd) : FnOk G.P G.w G.K G.mg G.base (L2.CX G.P G.w) 1 f fd ["_law_p", "_law_q", "_law_r"] (spM G m_l_cross) := by
  refine fn_ok [true, true, true] _ Fn sc_l_cross (by decide +kernel) rfl ar3_len (fun cdv A outer s H E hr ds hl => ?_)
  obtain ⟨p_p, p_q, p_r, rfl⟩ := len3 hl
  refine ⟨c_l_cross p_p p_q p_r, rfl, ?_⟩
  unfold c_l_cross
  refine bm_lit [.val p_p, .val p_q, .val p_r] rfl ?_
  exact bm_ret (he := em_sub (em_mul (em_sub (em_ix (em_var 1 rfl rfl rfl) em_int (fun _ _ => rfl)) (em_ix (em_var 0 rfl rfl rfl) em_int (fun _ _ => rfl))) (em_sub (em_ix (em_var 2 rfl rfl rfl) em_int (fun _ _ => rfl)) (em_ix (em_var 0 rfl rfl rfl) em_int (fun _ _ => rfl)))) (em_mul (em_sub (em_ix (em_var 1 rfl rfl rfl) em_int (fun _ _ => rfl)) (em_ix (em_var 0 rfl rfl rfl) em_int (fun _ _ => rfl))) (em_sub (em_ix (em_var 2 rfl rfl rfl) em_int (fun _ _ => rfl)) (em_ix (em_var 0 rfl rfl rfl) em_int (fun _ _ => rfl))))) .nil
/-! ### _law_wide -/
abbrev s_l_wide : Stmt := topS 34
theorem sc_l_wide : FnScope ["_law_pool_here", "_law_at", "_law_wide_here", "_law_big"] ["_law_pool_here", "_law_at", "_law_wide_here"] (defScope s_l_wide) := ⟨rfl, rfl, rfl, by decide +kernel, rfl, by decide +kernel, by decide +kernel⟩
theorem ok_l_wide {G : GG} {f : Addr} {fd : FuncData} (Fn : Fun G.K "_law_wide" "_law_wide" s_l_wide f fd) (B : Bi G) (k_l_draw : Kn G 1 "_law_draw" m_l_draw) : FnOk G.P G.w G.K G.mg G.base (L2.CX G.P G.w) 2 f fd ["_law_pool_here", "_law_at", "_law_wide_here"] (spM G m_l_wide) := by
  refine fn_ok [true, true, true, true] _ Fn sc_l_wide (by decide +kernel) rfl ar3_len (fun cdv A outer s H E hr ds hl => ?_)
  obtain ⟨p_pool_here, p_at, p_wide_here, rfl⟩ := len3 hl
  refine ⟨c_l_wide p_pool_here p_at p_wide_here, rfl, ?_⟩
  unfold c_l_wide
  refine bm_lit [.val p_pool_here, .val p_at, .val p_wide_here, .unk] rfl ?_
  refine bm_asg 3 (gm_set 3 rfl rfl (em_add (em_mul (em_call k_l_draw rfl (by rfl) (am_cons (em_var 0 rfl rfl rfl) (am_cons (em_var 1 rfl rfl rfl) (am_cons em_int am_nil)))) em_int) (em_call k_l_draw rfl (by rfl) (am_cons (em_var 0 rfl rfl rfl) (am_cons (em_add (em_var 1 rfl rfl rfl) em_int) (am_cons em_int am_nil)))))) .nil fun v1_big => ?_
  refine bm_lit [.val p_pool_here, .val p_at, .val p_wide_here, .val v1_big] rfl ?_
  exact bm_ret (he := em_sub (em_mod (em_int_of (by rfl) B.f_int (am_cons (em_add (em_var 3 rfl rfl rfl) (em_mul (em_var 1 rfl rfl rfl) (em_var 1 rfl rfl rfl))) am_nil)) (em_var 2 rfl rfl rfl)) (em_div (em_var 2 rfl rfl rfl) em_int)) .nil
/-! ### _law_flat -/
abbrev s_l_flat : Stmt := topS 35
theorem sc_l_flat : FnScope ["_law_places", "_law_a", "_law_b", "_law_c"] ["_law_places"] (defScope s_l_flat) := ⟨rfl, rfl, rfl, by decide +kernel, rfl, by decide +kernel, by decide +kernel⟩
theorem ok_l_flat {G : GG} {f : Addr} {fd : FuncData} (Fn : Fun G.K "_law_flat" "_law_flat" s_l_flat f fd) (B : Bi G) (k_l_cross : Kn G 1 "_law_cross" m_l_cross) : FnOk G.P G.w G.K G.mg G.base (L2.CX G.P G.w) 2 f fd ["_law_places"] (spM G m_l_flat) := by
  refine fn_ok [true, true, true, true] _ Fn sc_l_flat (by decide +kernel) rfl ar1_len (fun cdv A outer s H E hr ds hl => ?_)
  obtain ⟨p_places, rfl⟩ := len1 hl
  refine ⟨c_l_flat p_places, rfl, ?_⟩
  unfold c_l_flat
  refine bm_lit [.val p_places, .unk, .unk, .unk] rfl ?_
  refine bm_for (T := Unit) (fj := (fun (v1_j : Unit) => [.val p_places, .unk, .unk, .unk])) (j0 := ()) (im_range1 (by rfl) B.f_range (am_cons (em_len (by rfl) B.f_len (am_cons (em_var 0 rfl rfl rfl) am_nil)) am_nil)) .nil (.same (.unk (.unk (.unk .nil)))) rfl (tg_name 1 rfl rfl) (fun v2_a v1_j => ?_) (fun v1_j => ?_) rfl
  · skip
    refine .inl ⟨_, rfl, ?_⟩
    refine bm_lit [.val p_places, .val v2_a, .unk, .unk] rfl ?_
    refine bm_for (T := Unit) (fj := (fun (v3_j : Unit) => [.val p_places, .val v2_a, .unk, .unk])) (j0 := ()) (im_range2 (by rfl) B.f_range (am_cons (em_add (em_var 1 rfl rfl rfl) em_int) (am_cons (em_len (by rfl) B.f_len (am_cons (em_var 0 rfl rfl rfl) am_nil)) am_nil))) .nil (.same (.same (.unk (.unk .nil)))) rfl (tg_name 2 rfl rfl) (fun v4_b v3_j => ?_) (fun v3_j => ?_) rfl
    · skip
      refine .inl ⟨_, rfl, ?_⟩
      refine bm_lit [.val p_places, .val v2_a, .val v4_b, .unk] rfl ?_
      refine bm_for (T := Unit) (fj := (fun (v5_j : Unit) => [.val p_places, .val v2_a, .val v4_b, .unk])) (j0 := ()) (im_range2 (by rfl) B.f_range (am_cons (em_add (em_var 2 rfl rfl rfl) em_int) (am_cons (em_len (by rfl) B.f_len (am_cons (em_var 0 rfl rfl rfl) am_nil)) am_nil))) .nil (.same (.same (.same (.unk .nil)))) rfl (tg_name 3 rfl rfl) (fun v6_c v5_j => ?_) (fun v5_j => ?_) rfl
      · skip
        refine .inl ⟨_, rfl, ?_⟩
        refine bm_lit [.val p_places, .val v2_a, .val v4_b, .val v6_c] rfl ?_
        refine bm_ifl (tm_cmp ok_eq rm_eq (em_call k_l_cross rfl (by rfl) (am_cons (em_ix (em_var 0 rfl rfl rfl) (em_var 1 rfl rfl rfl) (fun _ _ => rfl)) (am_cons (em_ix (em_var 0 rfl rfl rfl) (em_var 2 rfl rfl rfl) (fun _ _ => rfl)) (am_cons (em_ix (em_var 0 rfl rfl rfl) (em_var 3 rfl rfl rfl) (fun _ _ => rfl)) am_nil)))) em_int (nomark _)) .nil ?_ ?_ ?_
        · skip
          refine bm_lit [.val p_places, .val v2_a, .val v4_b, .val v6_c] rfl ?_
          exact bm_ret (he := em_tup (am_cons (em_var 1 rfl rfl rfl) (am_cons (em_var 2 rfl rfl rfl) (am_cons (em_var 3 rfl rfl rfl) am_nil)))) .nil
        · repeat (first | exact noNx_ret | exact noNx_exn | exact noNx_stk | exact noNx_exnF | refine noNx_bindC (fun _ => ?_) | refine noNx_bind (fun _ => ?_) | refine noNx_ite ?_ ?_ | (dsimp only))
        exact bm_nil (s := ()) (.same (.same (.same (.unk .nil))))
      exact bm_nil (s := ()) (.same (.same (.unk (.unk .nil))))
    exact bm_nil (s := ()) (.same (.unk (.unk (.unk .nil))))
  refine bm_lit [.val p_places, .unk, .unk, .unk] rfl ?_
  exact bm_ret (he := em_non) .nil
/-! ### _law_expected -/
abbrev s_l_expected : Stmt := topS 36
theorem sc_l_expected : FnScope ["_law_places", "_law_letters", "_law_c", "_law_b", "_law_a"] ["_law_places"] (defScope s_l_expected) := ⟨rfl, rfl, rfl, by decide +kernel, rfl, by decide +kernel, by decide +kernel⟩
theorem ok_l_expected {G : GG} {f : Addr} {fd : FuncData} (Fn : Fun G.K "_law_expected" "_law_expected" s_l_expected f fd) (B : Bi G) (k_l_cross : Kn G 1 "_law_cross" m_l_cross) : FnOk G.P G.w G.K G.mg G.base (L2.CX G.P G.w) 2 f fd ["_law_places"] (spM G m_l_expected) := by
  refine fn_ok [true, true, true, true, true] _ Fn sc_l_expected (by decide +kernel) rfl ar1_len (fun cdv A outer s H E hr ds hl => ?_)
  obtain ⟨p_places, rfl⟩ := len1 hl
  refine ⟨c_l_expected p_places, rfl, ?_⟩
  unfold c_l_expected
  refine bm_lit [.val p_places, .unk, .unk, .unk, .unk] rfl ?_
  refine bm_asg 1 (gm_set 1 rfl rfl em_str) .nil fun v1_letters => ?_
  refine bm_lit [.val p_places, .val v1_letters, .unk, .unk, .unk] rfl ?_
  refine bm_for (T := Unit) (fj := (fun (v2_j : D) => [.val p_places, .val v2_j, .unk, .unk, .unk])) (j0 := v1_letters) (im_range1 (by rfl) B.f_range (am_cons (em_len (by rfl) B.f_len (am_cons (em_var 0 rfl rfl rfl) am_nil)) am_nil)) .nil (.same (.same (.unk (.unk (.unk .nil))))) rfl (tg_name 2 rfl rfl) (fun v3_c v2_j => ?_) (fun v2_j => ?_) rfl
  · skip
    refine .inl ⟨_, rfl, ?_⟩
    refine bm_lit [.val p_places, .val v2_j, .val v3_c, .unk, .unk] rfl ?_
    refine bm_for (T := Unit) (fj := (fun (v4_j : D) => [.val p_places, .val v4_j, .val v3_c, .unk, .unk])) (j0 := v2_j) (im_range1 (by rfl) B.f_range (am_cons (em_var 2 rfl rfl rfl) am_nil)) .nil (.same (.same (.same (.unk (.unk .nil))))) rfl (tg_name 3 rfl rfl) (fun v5_b v4_j => ?_) (fun v4_j => ?_) rfl
    · skip
      refine .inl ⟨_, rfl, ?_⟩
      refine bm_lit [.val p_places, .val v4_j, .val v3_c, .val v5_b, .unk] rfl ?_
      refine bm_for (T := Unit) (fj := (fun (v6_j : D) => [.val p_places, .val v6_j, .val v3_c, .val v5_b, .unk])) (j0 := v4_j) (im_range1 (by rfl) B.f_range (am_cons (em_var 3 rfl rfl rfl) am_nil)) .nil (.same (.same (.same (.same (.unk .nil))))) rfl (tg_name 4 rfl rfl) (fun v7_a v6_j => ?_) (fun v6_j => ?_) rfl
      · skip
        refine .inl ⟨_, rfl, ?_⟩
        refine bm_lit [.val p_places, .val v6_j, .val v3_c, .val v5_b, .val v7_a] rfl ?_
        refine bm_asg 1 (gm_set 1 rfl rfl (em_add (em_var 1 rfl rfl rfl) (em_ix (em_lst (am_cons em_str (am_cons em_str am_nil))) (em_int_of (by rfl) B.f_int (am_cons (em_cmp ok_gt rm_gt (em_call k_l_cross rfl (by rfl) (am_cons (em_ix (em_var 0 rfl rfl rfl) (em_var 4 rfl rfl rfl) (fun _ _ => rfl)) (am_cons (em_ix (em_var 0 rfl rfl rfl) (em_var 3 rfl rfl rfl) (fun _ _ => rfl)) (am_cons (em_ix (em_var 0 rfl rfl rfl) (em_var 2 rfl rfl rfl) (fun _ _ => rfl)) am_nil)))) em_int (nomark _)) am_nil)) (fun _ _ => rfl)))) .nil fun v8_letters => ?_
        exact bm_nil (s := v8_letters) (.same (.same (.same (.same (.unk .nil)))))
      exact bm_nil (s := v6_j) (.same (.same (.same (.unk (.unk .nil)))))
    exact bm_nil (s := v4_j) (.same (.same (.unk (.unk (.unk .nil)))))
  refine bm_lit [.val p_places, .val v2_j, .unk, .unk, .unk] rfl ?_
  exact bm_ret (he := em_var 1 rfl rfl rfl) .nil
/-! ### law -/
abbrev s_law_k02 : Stmt := topS 37
theorem sc_law_k02 : FnScope ["_law_script", "_law_pool_here", "_law_many", "_law_wide_here", "_law_places", "_law_k", "_law_given", "_law_flat_here", "_law_letters", "_law_told", "_law_refused", "_law_same", "_law_table", "e", "_law_x"] ["_law_script"] (defScope s_law_k02) := ⟨rfl, rfl, rfl, by decide +kernel, rfl, by decide +kernel, by decide +kernel⟩
theorem ok_law_k02 {G : GG} {f : Addr} {fd : FuncData} (Fn : Fun G.K "law" "law" s_law_k02 f fd) (B : Bi G) (k_l_draw : Kn G 9 "_law_draw" m_l_draw) (k_l_expected : Kn G 9 "_law_expected" m_l_expected) (k_l_flat : Kn G 9 "_law_flat" m_l_flat) (k_l_pool : Kn G 9 "_law_pool" m_l_pool) (k_l_wide : Kn G 9 "_law_wide" m_l_wide) (st_Table_placed : StaK G 9 "Table" "placed" m_Table_placed) (fl_1_letters : Fld G 1 "letters") (fl_1_posts : Fld G 1 "posts") (mk_Table : MkK G 9 1 "Table" m_Table___init) (du_1_eq : DunK G 9 1 "__eq__" m_Table___eq) (xa_posts : XfK G "posts") (xn_BadInput : XcN G "BadInput" [false, true, false, false, false, false]) (XI : ∀ c, c < 6 → XcI G c) (xn_Quarrel : XcN G "Quarrel" [false, false, false, true, false, false]) (xn_PostError : XcN G "PostError" [true, true, true, true, true, true]) (xn_InLine : XcN G "InLine" [false, false, true, false, false, false]) (xn_ValueError : XcN G "ValueError" [true, true, true, true, true, true]) (tn_tuple : TyN G "tuple" [("NoneType", false), ("bool", false), ("int", false), ("str", false), ("list", false), ("tuple", true)] [(1, false)]) (tn_int : TyN G "int" [("NoneType", false), ("bool", true), ("int", true), ("str", false), ("list", false), ("tuple", false)] [(1, false)]) (tn_bool : TyN G "bool" [("NoneType", false), ("bool", true), ("int", false), ("str", false), ("list", false), ("tuple", false)] [(1, false)]) : FnOk G.P G.w G.K G.mg G.base (L2.CX G.P G.w) 10 f fd ["_law_script"] (spM G m_law_k02) := by
  refine fn_ok [true, true, true, true, true, false, true, true, true, true, true, true, true, true, false] _ Fn sc_law_k02 (by decide +kernel) rfl ar1_len (fun cdv A outer s H E hr ds hl => ?_)
  obtain ⟨p_script, rfl⟩ := len1 hl
  refine ⟨c_law_k02 p_script, rfl, ?_⟩
  unfold c_law_k02
  refine bm_lit [.val p_script, .unk, .unk, .unk, .unk, .unk, .unk, .unk, .unk, .unk, .unk, .unk, .unk, .unk, .unk] rfl ?_
  refine bm_asg 1 (gm_set 1 rfl rfl (em_call k_l_pool rfl (by rfl) (am_cons (em_var 0 rfl rfl rfl) am_nil))) .nil fun v1_pool_here => ?_
  refine bm_lit [.val p_script, .val v1_pool_here, .unk, .unk, .unk, .unk, .unk, .unk, .unk, .unk, .unk, .unk, .unk, .unk, .unk] rfl ?_
  refine bm_asg 2 (gm_set 2 rfl rfl (em_add em_int (em_mod (em_add (em_call k_l_draw rfl (by rfl) (am_cons (em_var 1 rfl rfl rfl) (am_cons em_int (am_cons em_int am_nil)))) em_int) em_int))) .nil fun v2_many => ?_
  refine bm_lit [.val p_script, .val v1_pool_here, .val v2_many, .unk, .unk, .unk, .unk, .unk, .unk, .unk, .unk, .unk, .unk, .unk, .unk] rfl ?_
  refine bm_if (fj := (fun (v3_j : D) => [.val p_script, .val v1_pool_here, .val v3_j, .unk, .unk, .unk, .unk, .unk, .unk, .unk, .unk, .unk, .unk, .unk, .unk])) (tm_cmp ok_eq rm_eq (em_call k_l_draw rfl (by rfl) (am_cons (em_var 1 rfl rfl rfl) (am_cons em_int (am_cons em_int am_nil)))) em_int (nomark _)) .nil ?_ ?_ (fun v3_j => ?_)
  · skip
    refine bm_lit [.val p_script, .val v1_pool_here, .val v2_many, .unk, .unk, .unk, .unk, .unk, .unk, .unk, .unk, .unk, .unk, .unk, .unk] rfl ?_
    refine bm_asg 2 (gm_set 2 rfl rfl (em_ix (em_lst (am_cons em_int (am_cons em_int (am_cons em_int (am_cons em_int am_nil))))) (em_call k_l_draw rfl (by rfl) (am_cons (em_var 1 rfl rfl rfl) (am_cons em_int (am_cons em_int am_nil)))) (fun _ _ => rfl))) .nil fun v4_many => ?_
    exact bm_nil (s := v4_many) (.same (.same (.same (.unk (.unk (.unk (.unk (.unk (.unk (.unk (.unk (.unk (.unk (.unk (.unk .nil)))))))))))))))
  · skip
    exact bm_nil (s := v2_many) (.same (.same (.same (.unk (.unk (.unk (.unk (.unk (.unk (.unk (.unk (.unk (.unk (.unk (.unk .nil)))))))))))))))
  refine bm_lit [.val p_script, .val v1_pool_here, .val v3_j, .unk, .unk, .unk, .unk, .unk, .unk, .unk, .unk, .unk, .unk, .unk, .unk] rfl ?_
  refine bm_asg 3 (gm_set 3 rfl rfl (em_ix (em_lst (am_cons em_int (am_cons em_int (am_cons (em_add (em_mul em_int (em_pow em_int em_int)) em_int) am_nil)))) (em_call k_l_draw rfl (by rfl) (am_cons (em_var 1 rfl rfl rfl) (am_cons em_int (am_cons em_int am_nil)))) (fun _ _ => rfl))) .nil fun v5_wide_here => ?_
  refine bm_lit [.val p_script, .val v1_pool_here, .val v3_j, .val v5_wide_here, .unk, .unk, .unk, .unk, .unk, .unk, .unk, .unk, .unk, .unk, .unk] rfl ?_
  refine bm_asg 4 (gm_lc 4 rfl  (blkF_of ["_law_script", "_law_pool_here", "_law_many", "_law_wide_here", "_law_places", "_law_k", "_law_given", "_law_flat_here", "_law_letters", "_law_told", "_law_refused", "_law_same", "_law_table", "e", "_law_x"] (defScope s_law_k02).names rfl rfl (by decide +kernel) : BlkF _ _ [("_law_k", 5)] [false, true, false, true, false, true, false, false, false, false, false, false, false, false, false] [false, false, false, false, false, true, false, false, false, false, false, false, false, false, false] _) rfl (im_range1 (by rfl) B.f_range (am_cons (em_var 2 rfl rfl rfl) am_nil)) (tg_name 5 rfl rfl) (fun v7_k => .inl (⟨_, _, _, rfl, ifm_nil, em_tup (am_cons (em_call k_l_wide rfl (by rfl) (am_cons (em_var 1 rfl rfl rfl) (am_cons (em_add em_int (em_mul em_int (em_var 5 rfl rfl rfl))) (am_cons (em_var 3 rfl rfl rfl) am_nil)))) (am_cons (em_call k_l_wide rfl (by rfl) (am_cons (em_var 1 rfl rfl rfl) (am_cons (em_add em_int (em_mul em_int (em_var 5 rfl rfl rfl))) (am_cons (em_var 3 rfl rfl rfl) am_nil)))) am_nil)), rfl⟩)) rfl rfl rfl (by rfl)) .nil fun v6_places => ?_
  refine bm_lit [.val p_script, .val v1_pool_here, .val v3_j, .val v5_wide_here, .val v6_places, .unk, .unk, .unk, .unk, .unk, .unk, .unk, .unk, .unk, .unk] rfl ?_
  refine bm_asg 6 (gm_set 6 rfl rfl (em_list (by rfl) B.f_list (am_cons (em_var 4 rfl rfl rfl) am_nil))) .nil fun v8_given => ?_
  refine bm_lit [.val p_script, .val v1_pool_here, .val v3_j, .val v5_wide_here, .val v6_places, .unk, .val v8_given, .unk, .unk, .unk, .unk, .unk, .unk, .unk, .unk] rfl ?_
  refine bm_asg 7 (gm_set 7 rfl rfl (em_call k_l_flat rfl (by rfl) (am_cons (em_var 4 rfl rfl rfl) am_nil))) .nil fun v9_flat_here => ?_
  refine bm_lit [.val p_script, .val v1_pool_here, .val v3_j, .val v5_wide_here, .val v6_places, .unk, .val v8_given, .val v9_flat_here, .unk, .unk, .unk, .unk, .unk, .unk, .unk] rfl ?_
  refine bm_asg 8 (gm_set 8 rfl rfl em_non) .nil fun v10_letters => ?_
  refine bm_lit [.val p_script, .val v1_pool_here, .val v3_j, .val v5_wide_here, .val v6_places, .unk, .val v8_given, .val v9_flat_here, .val v10_letters, .unk, .unk, .unk, .unk, .unk, .unk] rfl ?_
  refine bm_asg 9 (gm_set 9 rfl rfl em_non) .nil fun v11_told => ?_
  refine bm_lit [.val p_script, .val v1_pool_here, .val v3_j, .val v5_wide_here, .val v6_places, .unk, .val v8_given, .val v9_flat_here, .val v10_letters, .val v11_told, .unk, .unk, .unk, .unk, .unk] rfl ?_
  refine bm_asg 10 (gm_set 10 rfl rfl em_bl) .nil fun v12_refused => ?_
  refine bm_lit [.val p_script, .val v1_pool_here, .val v3_j, .val v5_wide_here, .val v6_places, .unk, .val v8_given, .val v9_flat_here, .val v10_letters, .val v11_told, .val v12_refused, .unk, .unk, .unk, .unk] rfl ?_
  refine bm_asg 11 (gm_set 11 rfl rfl em_bl) .nil fun v13_same => ?_
  refine bm_lit [.val p_script, .val v1_pool_here, .val v3_j, .val v5_wide_here, .val v6_places, .unk, .val v8_given, .val v9_flat_here, .val v10_letters, .val v11_told, .val v12_refused, .val v13_same, .unk, .unk, .unk] rfl ?_
  refine bm_try2 (fy := (fun (v14_y : D × D) => [.val p_script, .val v1_pool_here, .val v3_j, .val v5_wide_here, .val v6_places, .unk, .val v8_given, .val v9_flat_here, .val v14_y.1, .val v11_told, .val v12_refused, .val v14_y.2, .unk, .unk, .unk])) (fj := (fun (v15_j : D × D × D × D) => [.val p_script, .val v1_pool_here, .val v3_j, .val v5_wide_here, .val v6_places, .unk, .val v8_given, .val v9_flat_here, .val v15_j.1, .val v15_j.2.1, .val v15_j.2.2.1, .val v15_j.2.2.2, .unk, .unk, .unk])) 13 rfl rfl xn_InLine xn_BadInput (by rfl) (by rfl) rfl (fun W => ?_) (fun a dd e v14_y hdd htab => ?_) (fun a dd e v14_y hdd htab => ?_) (fun _ => rfl) (fun v15_j => ?_)
  · skip
    refine bm_lit [.val p_script, .val v1_pool_here, .val v3_j, .val v5_wide_here, .val v6_places, .unk, .val v8_given, .val v9_flat_here, .val v10_letters, .val v11_told, .val v12_refused, .val v13_same, .unk, .unk, .unk] rfl ?_
    refine bm_asg 12 (gm_set 12 rfl rfl (em_static (pl := fun X => _) st_Table_placed rfl (by rfl) (am_cons (em_var 6 rfl rfl rfl) am_nil))) (.same (.same (.same (.same (.same (.unk (.same (.same (.same (.same (.same (.same (.unk (.unk (.unk .nil))))))))))))))) fun v16_table => ?_
    refine bm_lit [.val p_script, .val v1_pool_here, .val v3_j, .val v5_wide_here, .val v6_places, .unk, .val v8_given, .val v9_flat_here, .val v10_letters, .val v11_told, .val v12_refused, .val v13_same, .val v16_table, .unk, .unk] rfl ?_
    refine bm_asg 8 (gm_set 8 rfl rfl (em_fld fl_1_letters (em_var 12 rfl rfl rfl))) (.same (.same (.same (.same (.same (.unk (.same (.same (.same (.same (.same (.same (.unk (.unk (.unk .nil))))))))))))))) fun v17_letters => ?_
    refine bm_lit [.val p_script, .val v1_pool_here, .val v3_j, .val v5_wide_here, .val v6_places, .unk, .val v8_given, .val v9_flat_here, .val v17_letters, .val v11_told, .val v12_refused, .val v13_same, .val v16_table, .unk, .unk] rfl ?_
    refine bm_asg 11 (gm_set 11 rfl rfl (em_and (em_cmp ok_eq rm_eq (em_fld fl_1_posts (em_var 12 rfl rfl rfl)) (em_var 2 rfl rfl rfl) (nomark _)) (em_one (em_eqO du_1_eq rfl (em_var 12 rfl rfl rfl) (em_make mk_Table rfl (by rfl) (am_cons (em_var 8 rfl rfl rfl) am_nil)) (by with_unfolding_all rfl))))) (.same (.same (.same (.same (.same (.unk (.same (.same (.same (.same (.same (.same (.unk (.unk (.unk .nil))))))))))))))) fun v18_same => ?_
    exact bm_nil (s := (v17_letters, v11_told, v12_refused, v18_same)) (.same (.same (.same (.same (.same (.unk (.same (.same (.same (.same (.same (.same (.unk (.unk (.unk .nil)))))))))))))))
  · skip
    refine bm_lit [.val p_script, .val v1_pool_here, .val v3_j, .val v5_wide_here, .val v6_places, .unk, .val v8_given, .val v9_flat_here, .val v14_y.1, .val v11_told, .val v12_refused, .val v14_y.2, .unk, .ref (refK a dd e), .unk] rfl ?_
    refine bm_asg 9 (gm_set 9 rfl rfl (em_xf 13 xa_posts hdd rfl rfl rfl)) .nil fun v19_told => ?_
    refine bm_lit [.val p_script, .val v1_pool_here, .val v3_j, .val v5_wide_here, .val v6_places, .unk, .val v8_given, .val v9_flat_here, .val v14_y.1, .val v19_told, .val v12_refused, .val v14_y.2, .unk, .ref (refK a dd e), .unk] rfl ?_
    refine bm_ifl (tm_w (wm_or (tm_val (em_isEx 13 xn_BadInput XI hdd (by decide) rfl rfl rfl (by rfl) B.f_isinstance (by rfl)) (fun _ _ _ => rfl)) (wm_or (tm_val (em_isEx 13 xn_Quarrel XI hdd (by decide) rfl rfl rfl (by rfl) B.f_isinstance (by rfl)) (fun _ _ _ => rfl)) (wm_or1 (tm_not (tm_val (em_isEx 13 xn_PostError XI hdd (by decide) rfl rfl rfl (by rfl) B.f_isinstance (by rfl)) (fun _ _ _ => rfl))))))) .nil ?_ ?_ ?_
    · skip
      refine bm_lit [.val p_script, .val v1_pool_here, .val v3_j, .val v5_wide_here, .val v6_places, .unk, .val v8_given, .val v9_flat_here, .val v14_y.1, .val v19_told, .val v12_refused, .val v14_y.2, .unk, .ref (refK a dd e), .unk] rfl ?_
      exact bm_ret (he := em_bl) .nil
    · repeat (first | exact noNx_ret | exact noNx_exn | exact noNx_stk | exact noNx_exnF | refine noNx_bindC (fun _ => ?_) | refine noNx_bind (fun _ => ?_) | refine noNx_ite ?_ ?_ | (dsimp only))
    exact bm_nil (s := (v14_y.1, v19_told, v12_refused, v14_y.2)) (.same (.same (.same (.same (.same (.unk (.same (.same (.same (.same (.same (.same (.unk (.unk (.unk .nil)))))))))))))))
  · skip
    refine bm_lit [.val p_script, .val v1_pool_here, .val v3_j, .val v5_wide_here, .val v6_places, .unk, .val v8_given, .val v9_flat_here, .val v14_y.1, .val v11_told, .val v12_refused, .val v14_y.2, .unk, .ref (refK a dd e), .unk] rfl ?_
    refine bm_asg 10 (gm_set 10 rfl rfl (em_and (em_isEx 13 xn_PostError XI hdd (by decide) rfl rfl rfl (by rfl) B.f_isinstance (by rfl)) (em_and (em_isEx 13 xn_ValueError XI hdd (by decide) rfl rfl rfl (by rfl) B.f_isinstance (by rfl)) (em_one (em_not (em_isEx 13 xn_InLine XI hdd (by decide) rfl rfl rfl (by rfl) B.f_isinstance (by rfl))))))) .nil fun v20_refused => ?_
    exact bm_nil (s := (v14_y.1, v11_told, v20_refused, v14_y.2)) (.same (.same (.same (.same (.same (.unk (.same (.same (.same (.same (.same (.same (.unk (.unk (.unk .nil)))))))))))))))
  refine bm_lit [.val p_script, .val v1_pool_here, .val v3_j, .val v5_wide_here, .val v6_places, .unk, .val v8_given, .val v9_flat_here, .val v15_j.1, .val v15_j.2.1, .val v15_j.2.2.1, .val v15_j.2.2.2, .unk, .unk, .unk] rfl ?_
  refine bm_ifl (tm_cmp ok_ne rm_ne (em_var 6 rfl rfl rfl) (em_var 4 rfl rfl rfl) (nomark _)) .nil ?_ ?_ ?_
  · skip
    refine bm_lit [.val p_script, .val v1_pool_here, .val v3_j, .val v5_wide_here, .val v6_places, .unk, .val v8_given, .val v9_flat_here, .val v15_j.1, .val v15_j.2.1, .val v15_j.2.2.1, .val v15_j.2.2.2, .unk, .unk, .unk] rfl ?_
    exact bm_ret (he := em_bl) .nil
  · repeat (first | exact noNx_ret | exact noNx_exn | exact noNx_stk | exact noNx_exnF | refine noNx_bindC (fun _ => ?_) | refine noNx_bind (fun _ => ?_) | refine noNx_ite ?_ ?_ | (dsimp only))
  refine bm_lit [.val p_script, .val v1_pool_here, .val v3_j, .val v5_wide_here, .val v6_places, .unk, .val v8_given, .val v9_flat_here, .val v15_j.1, .val v15_j.2.1, .val v15_j.2.2.1, .val v15_j.2.2.2, .unk, .unk, .unk] rfl ?_
  refine bm_ifl (tm_w (wm_or (tm_cmp ok_lt rm_lt (em_var 2 rfl rfl rfl) em_int (nomark _)) (wm_or1 (tm_cmp ok_gt rm_gt (em_var 2 rfl rfl rfl) em_int (nomark _))))) .nil ?_ ?_ ?_
  · skip
    refine bm_lit [.val p_script, .val v1_pool_here, .val v3_j, .val v5_wide_here, .val v6_places, .unk, .val v8_given, .val v9_flat_here, .val v15_j.1, .val v15_j.2.1, .val v15_j.2.2.1, .val v15_j.2.2.2, .unk, .unk, .unk] rfl ?_
    exact bm_ret (he := em_and (em_var 10 rfl rfl rfl) (em_and (em_cmp ok_is rm_is (em_var 9 rfl rfl rfl) em_non (nomark _)) (em_one (em_cmp ok_is rm_is (em_var 8 rfl rfl rfl) em_non (nomark _))))) .nil
  · repeat (first | exact noNx_ret | exact noNx_exn | exact noNx_stk | exact noNx_exnF | refine noNx_bindC (fun _ => ?_) | refine noNx_bind (fun _ => ?_) | refine noNx_ite ?_ ?_ | (dsimp only))
  refine bm_lit [.val p_script, .val v1_pool_here, .val v3_j, .val v5_wide_here, .val v6_places, .unk, .val v8_given, .val v9_flat_here, .val v15_j.1, .val v15_j.2.1, .val v15_j.2.2.1, .val v15_j.2.2.2, .unk, .unk, .unk] rfl ?_
  refine bm_ifl (tm_cmp ok_isnot rm_isnot (em_var 7 rfl rfl rfl) em_non (nomark _)) .nil ?_ ?_ ?_
  · skip
    refine bm_lit [.val p_script, .val v1_pool_here, .val v3_j, .val v5_wide_here, .val v6_places, .unk, .val v8_given, .val v9_flat_here, .val v15_j.1, .val v15_j.2.1, .val v15_j.2.2.1, .val v15_j.2.2.2, .unk, .unk, .unk] rfl ?_
    refine bm_ifl (tm_w (wm_or (tm_not (tm_val (em_isi tn_tuple (by rfl) B.f_isinstance (by rfl) (em_var 9 rfl rfl rfl)) (fun _ _ _ => rfl))) (wm_or (tm_cmp ok_ne rm_ne (em_len (by rfl) B.f_len (am_cons (em_var 9 rfl rfl rfl) am_nil)) em_int (nomark _)) (wm_or1 (tm_cmp ok_isnot rm_isnot (em_var 8 rfl rfl rfl) em_non (nomark _)))))) .nil ?_ ?_ ?_
    · skip
      refine bm_lit [.val p_script, .val v1_pool_here, .val v3_j, .val v5_wide_here, .val v6_places, .unk, .val v8_given, .val v9_flat_here, .val v15_j.1, .val v15_j.2.1, .val v15_j.2.2.1, .val v15_j.2.2.2, .unk, .unk, .unk] rfl ?_
      exact bm_ret (he := em_bl) .nil
    · repeat (first | exact noNx_ret | exact noNx_exn | exact noNx_stk | exact noNx_exnF | refine noNx_bindC (fun _ => ?_) | refine noNx_bind (fun _ => ?_) | refine noNx_ite ?_ ?_ | (dsimp only))
    refine bm_lit [.val p_script, .val v1_pool_here, .val v3_j, .val v5_wide_here, .val v6_places, .unk, .val v8_given, .val v9_flat_here, .val v15_j.1, .val v15_j.2.1, .val v15_j.2.2.1, .val v15_j.2.2.2, .unk, .unk, .unk] rfl ?_
    exact bm_ret (he := em_and (em_all rfl (by rfl) B.f_all (am_cons (em_lc (blkF_of ["_law_script", "_law_pool_here", "_law_many", "_law_wide_here", "_law_places", "_law_k", "_law_given", "_law_flat_here", "_law_letters", "_law_told", "_law_refused", "_law_same", "_law_table", "e", "_law_x"] (defScope s_law_k02).names rfl rfl (by decide +kernel) : BlkF _ _ [("_law_x", 14)] [false, false, false, false, false, false, false, false, false, false, false, false, false, false, true] [false, false, false, false, false, false, false, false, false, false, false, false, false, false, true] _) rfl (im_seq (em_var 9 rfl rfl rfl)) (tg_name 14 rfl rfl) (fun v21_x => .inl (⟨_, _, _, rfl, ifm_nil, em_and (em_isi tn_int (by rfl) B.f_isinstance (by rfl) (em_var 14 rfl rfl rfl)) (em_one (em_not (em_isi tn_bool (by rfl) B.f_isinstance (by rfl) (em_var 14 rfl rfl rfl)))), rfl⟩))) am_nil)) (em_one (em_cmp ok_eq rm_eq (em_var 9 rfl rfl rfl) (em_var 7 rfl rfl rfl) (nomark _)))) .nil
  · repeat (first | exact noNx_ret | exact noNx_exn | exact noNx_stk | exact noNx_exnF | refine noNx_bindC (fun _ => ?_) | refine noNx_bind (fun _ => ?_) | refine noNx_ite ?_ ?_ | (dsimp only))
  refine bm_lit [.val p_script, .val v1_pool_here, .val v3_j, .val v5_wide_here, .val v6_places, .unk, .val v8_given, .val v9_flat_here, .val v15_j.1, .val v15_j.2.1, .val v15_j.2.2.1, .val v15_j.2.2.2, .unk, .unk, .unk] rfl ?_
  exact bm_ret (he := em_and (em_cmp ok_is rm_is (em_var 9 rfl rfl rfl) em_non (nomark _)) (em_and (em_not (em_var 10 rfl rfl rfl)) (em_and (em_cmp ok_eq rm_eq (em_var 8 rfl rfl rfl) (em_call k_l_expected rfl (by rfl) (am_cons (em_var 4 rfl rfl rfl) am_nil)) (nomark _)) (em_one (em_var 11 rfl rfl rfl))))) .nil
/-! ### all of it -/
abbrev theG (l : PySem.W.OpenLaw) (w : World) (K : PySem.W.Frag) (mg : Str → Option Value) (base : Heap) (C_Table E_PostError E_BadInput E_InLine E_Quarrel E_Blocked : Addr) : GG := ⟨l.prog, w, K, mg, base, fun i => match i with | 1 => C_Table | _ => 0, fun i => match i with | 0 => .ref E_PostError | 1 => .ref E_BadInput | 2 => .ref E_InLine | 3 => .ref E_Quarrel | 4 => .ref E_Blocked | 5 => .ref E_PostError | _ => .none⟩
theorem all_mk {l : PySem.W.OpenLaw} {w : World} {K : PySem.W.Frag} {h : Heap} {mg : Str → Option Value} {fa C_Table E_PostError E_BadInput E_InLine E_Quarrel E_Blocked f_position f_threes f_area f_Table___eq f_l_pool f_l_draw f_l_cross f_turn_of f_l_wide f_l_flat f_l_expected f_breaks_five f_last_breach f_breach f_Table___init A_SIZES fx_Quarrel cc_Quarrel cda_Quarrel N_Quarrel f_Table_placed p_Table_placed fx_InLine cc_InLine cda_InLine N_InLine f_law_k02 : Addr} {oc_position : Value} {od_position : Option Addr} {an_position : Option Addr} {sl_position : Array (Option Value)} {kV_position dc_position pm_position cd_position ct_position : Value} {oc_threes : Value} {od_threes : Option Addr} {an_threes : Option Addr} {sl_threes : Array (Option Value)} {kV_threes dc_threes pm_threes cd_threes ct_threes : Value} {oc_area : Value} {od_area : Option Addr} {an_area : Option Addr} {sl_area : Array (Option Value)} {kV_area dc_area pm_area cd_area ct_area : Value} {oc_Table___eq : Value} {od_Table___eq : Option Addr} {an_Table___eq : Option Addr} {sl_Table___eq : Array (Option Value)} {kV_Table___eq dc_Table___eq pm_Table___eq cd_Table___eq ct_Table___eq : Value} {oc_l_pool : Value} {od_l_pool : Option Addr} {an_l_pool : Option Addr} {sl_l_pool : Array (Option Value)} {kV_l_pool dc_l_pool pm_l_pool cd_l_pool ct_l_pool : Value} {oc_l_draw : Value} {od_l_draw : Option Addr} {an_l_draw : Option Addr} {sl_l_draw : Array (Option Value)} {kV_l_draw dc_l_draw pm_l_draw cd_l_draw ct_l_draw : Value} {oc_l_cross : Value} {od_l_cross : Option Addr} {an_l_cross : Option Addr} {sl_l_cross : Array (Option Value)} {kV_l_cross dc_l_cross pm_l_cross cd_l_cross ct_l_cross : Value} {oc_turn_of : Value} {od_turn_of : Option Addr} {an_turn_of : Option Addr} {sl_turn_of : Array (Option Value)} {kV_turn_of dc_turn_of pm_turn_of cd_turn_of ct_turn_of : Value} {oc_l_wide : Value} {od_l_wide : Option Addr} {an_l_wide : Option Addr} {sl_l_wide : Array (Option Value)} {kV_l_wide dc_l_wide pm_l_wide cd_l_wide ct_l_wide : Value} {oc_l_flat : Value} {od_l_flat : Option Addr} {an_l_flat : Option Addr} {sl_l_flat : Array (Option Value)} {kV_l_flat dc_l_flat pm_l_flat cd_l_flat ct_l_flat : Value} {oc_l_expected : Value} {od_l_expected : Option Addr} {an_l_expected : Option Addr} {sl_l_expected : Array (Option Value)} {kV_l_expected dc_l_expected pm_l_expected cd_l_expected ct_l_expected : Value} {oc_breaks_five : Value} {od_breaks_five : Option Addr} {an_breaks_five : Option Addr} {sl_breaks_five : Array (Option Value)} {kV_breaks_five dc_breaks_five pm_breaks_five cd_breaks_five ct_breaks_five : Value} {oc_last_breach : Value} {od_last_breach : Option Addr} {an_last_breach : Option Addr} {sl_last_breach : Array (Option Value)} {kV_last_breach dc_last_breach pm_last_breach cd_last_breach ct_last_breach : Value} {oc_breach : Value} {od_breach : Option Addr} {an_breach : Option Addr} {sl_breach : Array (Option Value)} {kV_breach dc_breach pm_breach cd_breach ct_breach : Value} {oc_Table___init : Value} {od_Table___init : Option Addr} {an_Table___init : Option Addr} {sl_Table___init : Array (Option Value)} {kV_Table___init dc_Table___init pm_Table___init cd_Table___init ct_Table___init : Value} {nm_xQuarrel q_xQuarrel : Str} {bs_xQuarrel bm_xQuarrel sub_xQuarrel : List Value} {sn_xQuarrel : List Str} {ab_xQuarrel : Bool} {col_xQuarrel : Option Bool} {dd_xQuarrel : Option Addr} {k0_xQuarrel k1_xQuarrel k2_xQuarrel k3_xQuarrel k5_xQuarrel : Option Value} {oc_xQuarrel kV_xQuarrel dc_xQuarrel pm_xQuarrel ct_xQuarrel : Value} {od_xQuarrel an_xQuarrel : Option Addr} {sl_xQuarrel : Array (Option Value)} {oc_Table_placed : Value} {od_Table_placed : Option Addr} {an_Table_placed : Option Addr} {sl_Table_placed : Array (Option Value)} {kV_Table_placed dc_Table_placed pm_Table_placed cd_Table_placed ct_Table_placed : Value} {mc_Table_placed : Value} {rs_Table_placed : List Value} {mc_ci_Table_MOST_POSTS : Value} {u_ci_Table_MOST_POSTS : Tok} {nm_xInLine q_xInLine : Str} {bs_xInLine bm_xInLine sub_xInLine : List Value} {sn_xInLine : List Str} {ab_xInLine : Bool} {col_xInLine : Option Bool} {dd_xInLine : Option Addr} {k0_xInLine k1_xInLine k2_xInLine k3_xInLine k5_xInLine : Option Value} {oc_xInLine kV_xInLine dc_xInLine pm_xInLine ct_xInLine : Value} {od_xInLine an_xInLine : Option Addr} {sl_xInLine : Array (Option Value)} {oc_law_k02 : Value} {od_law_k02 : Option Addr} {an_law_k02 : Option Addr} {sl_law_k02 : Array (Option Value)} {kV_law_k02 dc_law_k02 pm_law_k02 cd_law_k02 ct_law_k02 : Value} (X : K.In h) (Gn : h.Ns mainGlobals mg) (hfa : mg "law" = some (.ref fa))
    (a_C_Table : PySem.W.nsIn K mainGlobals "Table" = some (some (.ref C_Table)))
    (i_C_Table : insB K C_Table = true)
    (a_E_PostError : PySem.W.nsIn K mainGlobals "PostError" = some (some (.ref E_PostError)))
    (a_E_BadInput : PySem.W.nsIn K mainGlobals "BadInput" = some (some (.ref E_BadInput)))
    (a_E_InLine : PySem.W.nsIn K mainGlobals "InLine" = some (some (.ref E_InLine)))
    (a_E_Quarrel : PySem.W.nsIn K mainGlobals "Quarrel" = some (some (.ref E_Quarrel)))
    (a_E_Blocked : PySem.W.nsIn K mainGlobals "Blocked" = some (some (.ref E_Blocked)))
    (z_len : PySem.W.nsIn K mainGlobals "len" = some none)
    (z_int : PySem.W.nsIn K mainGlobals "int" = some none)
    (z_range : PySem.W.nsIn K mainGlobals "range" = some none)
    (z_list : PySem.W.nsIn K mainGlobals "list" = some none)
    (z_isinstance : PySem.W.nsIn K mainGlobals "isinstance" = some none)
    (z_enumerate : PySem.W.nsIn K mainGlobals "enumerate" = some none)
    (z_sorted : PySem.W.nsIn K mainGlobals "sorted" = some none)
    (z_str : PySem.W.nsIn K mainGlobals "str" = some none)
    (z_tuple : PySem.W.nsIn K mainGlobals "tuple" = some none)
    (z_max : PySem.W.nsIn K mainGlobals "max" = some none)
    (z_min : PySem.W.nsIn K mainGlobals "min" = some none)
    (z_sum : PySem.W.nsIn K mainGlobals "sum" = some none)
    (z_all : PySem.W.nsIn K mainGlobals "all" = some none)
    (z_zip : PySem.W.nsIn K mainGlobals "zip" = some none)
    (z_iter : PySem.W.nsIn K mainGlobals "iter" = some none)
    (z_bool : PySem.W.nsIn K mainGlobals "bool" = some none)
    (z_ValueError : PySem.W.nsIn K mainGlobals "ValueError" = some none)
    (a_position : PySem.W.nsIn K mainGlobals "position" = some (some (.ref f_position)))
    (l_position : K.lookup f_position = some ⟨oc_position, od_position, .func (PySem.W.fnOf "position" "position" (defArgs s_position) (defBody s_position) (defScope s_position) .none kV_position dc_position pm_position an_position cd_position ct_position), sl_position⟩)
    (c_position_ : PySem.W.codeIn K cd_position "position" = true)
    (h_position : PySem.W.keepIn K (.ref f_position) = true)
    (a_threes : PySem.W.nsIn K mainGlobals "threes" = some (some (.ref f_threes)))
    (l_threes : K.lookup f_threes = some ⟨oc_threes, od_threes, .func (PySem.W.fnOf "threes" "threes" (defArgs s_threes) (defBody s_threes) (defScope s_threes) .none kV_threes dc_threes pm_threes an_threes cd_threes ct_threes), sl_threes⟩)
    (c_threes_ : PySem.W.codeIn K cd_threes "threes" = true)
    (h_threes : PySem.W.keepIn K (.ref f_threes) = true)
    (a_area : PySem.W.nsIn K mainGlobals "area" = some (some (.ref f_area)))
    (l_area : K.lookup f_area = some ⟨oc_area, od_area, .func (PySem.W.fnOf "area" "area" (defArgs s_area) (defBody s_area) (defScope s_area) .none kV_area dc_area pm_area an_area cd_area ct_area), sl_area⟩)
    (c_area_ : PySem.W.codeIn K cd_area "area" = true)
    (h_area : PySem.W.keepIn K (.ref f_area) = true)
    (a_Table___eq : PySem.W.findIn K (.ref C_Table) "__eq__" = some (some (.ref f_Table___eq)))
    (i_Table___eq : PySem.W.isFn K (.ref f_Table___eq) = true)
    (j_Table___eq : PySem.W.fnIn K f_Table___eq = true)
    (l_Table___eq : K.lookup f_Table___eq = some ⟨oc_Table___eq, od_Table___eq, .func (PySem.W.fnOf "__eq__" "Table.__eq__" (defArgs s_Table___eq) (defBody s_Table___eq) (defScope s_Table___eq) .none kV_Table___eq dc_Table___eq pm_Table___eq an_Table___eq cd_Table___eq ct_Table___eq), sl_Table___eq⟩)
    (c_Table___eq_ : PySem.W.codeIn K cd_Table___eq "Table.__eq__" = true)
    (h_Table___eq : PySem.W.keepIn K (.ref f_Table___eq) = true)
    (kt_Table : ktB K (fun i => match i with | 1 => C_Table | _ => 0) (.ref C_Table) [("NoneType", false), ("bool", false), ("int", false), ("str", false), ("list", false), ("tuple", false)] [(1, true)] = true)
    (n_1_posts : PySem.W.findIn K (.ref C_Table) "posts" = some none)
    (n_1_letters : PySem.W.findIn K (.ref C_Table) "letters" = some none)
    (a_l_pool : PySem.W.nsIn K mainGlobals "_law_pool" = some (some (.ref f_l_pool)))
    (l_l_pool : K.lookup f_l_pool = some ⟨oc_l_pool, od_l_pool, .func (PySem.W.fnOf "_law_pool" "_law_pool" (defArgs s_l_pool) (defBody s_l_pool) (defScope s_l_pool) .none kV_l_pool dc_l_pool pm_l_pool an_l_pool cd_l_pool ct_l_pool), sl_l_pool⟩)
    (c_l_pool_ : PySem.W.codeIn K cd_l_pool "_law_pool" = true)
    (h_l_pool : PySem.W.keepIn K (.ref f_l_pool) = true)
    (a_l_draw : PySem.W.nsIn K mainGlobals "_law_draw" = some (some (.ref f_l_draw)))
    (l_l_draw : K.lookup f_l_draw = some ⟨oc_l_draw, od_l_draw, .func (PySem.W.fnOf "_law_draw" "_law_draw" (defArgs s_l_draw) (defBody s_l_draw) (defScope s_l_draw) .none kV_l_draw dc_l_draw pm_l_draw an_l_draw cd_l_draw ct_l_draw), sl_l_draw⟩)
    (c_l_draw_ : PySem.W.codeIn K cd_l_draw "_law_draw" = true)
    (h_l_draw : PySem.W.keepIn K (.ref f_l_draw) = true)
    (a_l_cross : PySem.W.nsIn K mainGlobals "_law_cross" = some (some (.ref f_l_cross)))
    (l_l_cross : K.lookup f_l_cross = some ⟨oc_l_cross, od_l_cross, .func (PySem.W.fnOf "_law_cross" "_law_cross" (defArgs s_l_cross) (defBody s_l_cross) (defScope s_l_cross) .none kV_l_cross dc_l_cross pm_l_cross an_l_cross cd_l_cross ct_l_cross), sl_l_cross⟩)
    (c_l_cross_ : PySem.W.codeIn K cd_l_cross "_law_cross" = true)
    (h_l_cross : PySem.W.keepIn K (.ref f_l_cross) = true)
    (a_turn_of : PySem.W.nsIn K mainGlobals "turn_of" = some (some (.ref f_turn_of)))
    (l_turn_of : K.lookup f_turn_of = some ⟨oc_turn_of, od_turn_of, .func (PySem.W.fnOf "turn_of" "turn_of" (defArgs s_turn_of) (defBody s_turn_of) (defScope s_turn_of) .none kV_turn_of dc_turn_of pm_turn_of an_turn_of cd_turn_of ct_turn_of), sl_turn_of⟩)
    (c_turn_of_ : PySem.W.codeIn K cd_turn_of "turn_of" = true)
    (h_turn_of : PySem.W.keepIn K (.ref f_turn_of) = true)
    (a_l_wide : PySem.W.nsIn K mainGlobals "_law_wide" = some (some (.ref f_l_wide)))
    (l_l_wide : K.lookup f_l_wide = some ⟨oc_l_wide, od_l_wide, .func (PySem.W.fnOf "_law_wide" "_law_wide" (defArgs s_l_wide) (defBody s_l_wide) (defScope s_l_wide) .none kV_l_wide dc_l_wide pm_l_wide an_l_wide cd_l_wide ct_l_wide), sl_l_wide⟩)
    (c_l_wide_ : PySem.W.codeIn K cd_l_wide "_law_wide" = true)
    (h_l_wide : PySem.W.keepIn K (.ref f_l_wide) = true)
    (a_l_flat : PySem.W.nsIn K mainGlobals "_law_flat" = some (some (.ref f_l_flat)))
    (l_l_flat : K.lookup f_l_flat = some ⟨oc_l_flat, od_l_flat, .func (PySem.W.fnOf "_law_flat" "_law_flat" (defArgs s_l_flat) (defBody s_l_flat) (defScope s_l_flat) .none kV_l_flat dc_l_flat pm_l_flat an_l_flat cd_l_flat ct_l_flat), sl_l_flat⟩)
    (c_l_flat_ : PySem.W.codeIn K cd_l_flat "_law_flat" = true)
    (h_l_flat : PySem.W.keepIn K (.ref f_l_flat) = true)
    (a_l_expected : PySem.W.nsIn K mainGlobals "_law_expected" = some (some (.ref f_l_expected)))
    (l_l_expected : K.lookup f_l_expected = some ⟨oc_l_expected, od_l_expected, .func (PySem.W.fnOf "_law_expected" "_law_expected" (defArgs s_l_expected) (defBody s_l_expected) (defScope s_l_expected) .none kV_l_expected dc_l_expected pm_l_expected an_l_expected cd_l_expected ct_l_expected), sl_l_expected⟩)
    (c_l_expected_ : PySem.W.codeIn K cd_l_expected "_law_expected" = true)
    (h_l_expected : PySem.W.keepIn K (.ref f_l_expected) = true)
    (a_breaks_five : PySem.W.nsIn K mainGlobals "breaks_five" = some (some (.ref f_breaks_five)))
    (l_breaks_five : K.lookup f_breaks_five = some ⟨oc_breaks_five, od_breaks_five, .func (PySem.W.fnOf "breaks_five" "breaks_five" (defArgs s_breaks_five) (defBody s_breaks_five) (defScope s_breaks_five) .none kV_breaks_five dc_breaks_five pm_breaks_five an_breaks_five cd_breaks_five ct_breaks_five), sl_breaks_five⟩)
    (c_breaks_five_ : PySem.W.codeIn K cd_breaks_five "breaks_five" = true)
    (h_breaks_five : PySem.W.keepIn K (.ref f_breaks_five) = true)
    (a_last_breach : PySem.W.nsIn K mainGlobals "last_breach" = some (some (.ref f_last_breach)))
    (l_last_breach : K.lookup f_last_breach = some ⟨oc_last_breach, od_last_breach, .func (PySem.W.fnOf "last_breach" "last_breach" (defArgs s_last_breach) (defBody s_last_breach) (defScope s_last_breach) .none kV_last_breach dc_last_breach pm_last_breach an_last_breach cd_last_breach ct_last_breach), sl_last_breach⟩)
    (c_last_breach_ : PySem.W.codeIn K cd_last_breach "last_breach" = true)
    (h_last_breach : PySem.W.keepIn K (.ref f_last_breach) = true)
    (a_breach : PySem.W.nsIn K mainGlobals "breach" = some (some (.ref f_breach)))
    (l_breach : K.lookup f_breach = some ⟨oc_breach, od_breach, .func (PySem.W.fnOf "breach" "breach" (defArgs s_breach) (defBody s_breach) (defScope s_breach) .none kV_breach dc_breach pm_breach an_breach cd_breach ct_breach), sl_breach⟩)
    (c_breach_ : PySem.W.codeIn K cd_breach "breach" = true)
    (h_breach : PySem.W.keepIn K (.ref f_breach) = true)
    (a_Table___init : PySem.W.findIn K (.ref C_Table) "__init__" = some (some (.ref f_Table___init)))
    (i_Table___init : PySem.W.isFn K (.ref f_Table___init) = true)
    (j_Table___init : PySem.W.fnIn K f_Table___init = true)
    (l_Table___init : K.lookup f_Table___init = some ⟨oc_Table___init, od_Table___init, .func (PySem.W.fnOf "__init__" "Table.__init__" (defArgs s_Table___init) (defBody s_Table___init) (defScope s_Table___init) .none kV_Table___init dc_Table___init pm_Table___init an_Table___init cd_Table___init ct_Table___init), sl_Table___init⟩)
    (c_Table___init_ : PySem.W.codeIn K cd_Table___init "Table.__init__" = true)
    (h_Table___init : PySem.W.keepIn K (.ref f_Table___init) = true)
    (kt_str : ktB K (fun i => match i with | 1 => C_Table | _ => 0) (.type "str") [("NoneType", false), ("bool", false), ("int", false), ("str", true), ("list", false), ("tuple", false)] [(1, false)] = true)
    (a_K_SIZES : PySem.W.nsIn K mainGlobals "SIZES" = some (some (.ref A_SIZES)))
    (k_K_SIZES : kdOk K A_SIZES [(1, 3), (4, 4), (10, 5), (20, 6), (35, 7), (56, 8)] = true)
    (ol_Quarrel : K.lookup E_Quarrel = some (excClassObj nm_xQuarrel q_xQuarrel E_Quarrel N_Quarrel bs_xQuarrel bm_xQuarrel true sn_xQuarrel sub_xQuarrel ab_xQuarrel col_xQuarrel dd_xQuarrel k0_xQuarrel k1_xQuarrel k2_xQuarrel k3_xQuarrel k5_xQuarrel "ValueError.__new__"))
    (rv_Quarrel : PySem.HandSPX.refsVE bm_xQuarrel = true)
    (ax_Quarrel : PySem.W.findIn K (.ref E_Quarrel) "__init__" = some (some (.ref fx_Quarrel)))
    (lx_Quarrel : K.lookup fx_Quarrel = some ⟨oc_xQuarrel, od_xQuarrel, .func (PySem.W.ksFn "__init__" "Quarrel.__init__" (defArgs (clsS (topS 5) 0)) (defBody (clsS (topS 5) 0)) (defScope (clsS (topS 5) 0)) .none kV_xQuarrel dc_xQuarrel pm_xQuarrel an_xQuarrel (.ref cda_Quarrel) ct_xQuarrel cc_Quarrel), sl_xQuarrel⟩)
    (eb_Quarrel : exiB K l.prog.main.file E_Quarrel cc_Quarrel cda_Quarrel fx_Quarrel "Quarrel.__init__" "posts" = true)
    (z_super : PySem.W.nsIn K mainGlobals "super" = some none)
    (tp_super : (l.prog.main.scope.names.lookup ("super" : Str)).isSome = false)
    (q_BadInput : PySem.W.excIn K E_BadInput [.type "ValueError", .type "Exception", .type "BaseException", .type "object"] "ValueError.__new__" = true)
    (ke_BadInput : PySem.W.keepIn K (.ref E_BadInput) = true)
    (sb_BadInput : PySem.W.subIn K (.ref E_BadInput) (.type "BaseException") = some true)
    (ty_BadInput : PySem.W.typeIn K (.ref E_BadInput) = some (.type "type"))
    (mk0_Table : PySem.W.makesIn K C_Table = true)
    (kc_Table : PySem.W.keepIn K (.ref C_Table) = true)
    (tm_Table_placed : PySem.W.typeIn K (.ref C_Table) = some mc_Table_placed)
    (rdm_Table_placed : PySem.W.readsIn K C_Table mc_Table_placed = true)
    (ga_Table : PySem.W.specialIn K (.ref C_Table) "__getattribute__" = some (some (.builtin "type.__getattribute__")))
    (fs_Table_placed : PySem.W.findCls K (.ref C_Table) mc_Table_placed "placed" = some (.get (.builtin "staticmethod.__get__") (.ref p_Table_placed) .none (.ref C_Table)))
    (rc_Table_placed : PySem.W.recIn K p_Table_placed "staticmethod" = some (.ref f_Table_placed :: rs_Table_placed))
    (l_Table_placed : K.lookup f_Table_placed = some ⟨oc_Table_placed, od_Table_placed, .func (PySem.W.fnOf "placed" "Table.placed" (defArgs s_Table_placed) (defBody s_Table_placed) (defScope s_Table_placed) .none kV_Table_placed dc_Table_placed pm_Table_placed an_Table_placed cd_Table_placed ct_Table_placed), sl_Table_placed⟩)
    (c_Table_placed_ : PySem.W.codeIn K cd_Table_placed "Table.placed" = true)
    (h_Table_placed : PySem.W.keepIn K (.ref f_Table_placed) = true)
    (tm_ci_Table_MOST_POSTS : PySem.W.typeIn K (.ref C_Table) = some mc_ci_Table_MOST_POSTS)
    (rd_Table : PySem.W.readsIn K C_Table mc_ci_Table_MOST_POSTS = true)
    (fc_ci_Table_MOST_POSTS : PySem.W.findCls K (.ref C_Table) mc_ci_Table_MOST_POSTS "MOST_POSTS" = some (.val (.int 8 u_ci_Table_MOST_POSTS)))
    (ol_InLine : K.lookup E_InLine = some (excClassObj nm_xInLine q_xInLine E_InLine N_InLine bs_xInLine bm_xInLine true sn_xInLine sub_xInLine ab_xInLine col_xInLine dd_xInLine k0_xInLine k1_xInLine k2_xInLine k3_xInLine k5_xInLine "ValueError.__new__"))
    (rv_InLine : PySem.HandSPX.refsVE bm_xInLine = true)
    (ax_InLine : PySem.W.findIn K (.ref E_InLine) "__init__" = some (some (.ref fx_InLine)))
    (lx_InLine : K.lookup fx_InLine = some ⟨oc_xInLine, od_xInLine, .func (PySem.W.ksFn "__init__" "InLine.__init__" (defArgs (clsS (topS 4) 0)) (defBody (clsS (topS 4) 0)) (defScope (clsS (topS 4) 0)) .none kV_xInLine dc_xInLine pm_xInLine an_xInLine (.ref cda_InLine) ct_xInLine cc_InLine), sl_xInLine⟩)
    (eb_InLine : exiB K l.prog.main.file E_InLine cc_InLine cda_InLine fx_InLine "InLine.__init__" "posts" = true)
    (a_law_k02 : PySem.W.nsIn K mainGlobals "law" = some (some (.ref f_law_k02)))
    (l_law_k02 : K.lookup f_law_k02 = some ⟨oc_law_k02, od_law_k02, .func (PySem.W.fnOf "law" "law" (defArgs s_law_k02) (defBody s_law_k02) (defScope s_law_k02) .none kV_law_k02 dc_law_k02 pm_law_k02 an_law_k02 cd_law_k02 ct_law_k02), sl_law_k02⟩)
    (c_law_k02_ : PySem.W.codeIn K cd_law_k02 "law" = true)
    (h_law_k02 : PySem.W.keepIn K (.ref f_law_k02) = true)
    (xk_posts_PostError : xfkB K E_PostError "posts" = true)
    (xk_posts_BadInput : xfkB K E_BadInput "posts" = true)
    (xk_posts_InLine : xfkB K E_InLine "posts" = true)
    (xk_posts_Quarrel : xfkB K E_Quarrel "posts" = true)
    (xk_posts_Blocked : xfkB K E_Blocked "posts" = true)
    (xx_BadInput : xcB K [.ref E_PostError, .ref E_BadInput, .ref E_InLine, .ref E_Quarrel, .ref E_Blocked, .ref E_PostError] (.ref E_BadInput) [false, true, false, false, false, false] = true)
    (xi_PostError : excCB K E_PostError = true)
    (xi_BadInput : excCB K E_BadInput = true)
    (xi_InLine : excCB K E_InLine = true)
    (xi_Quarrel : excCB K E_Quarrel = true)
    (xi_Blocked : excCB K E_Blocked = true)
    (xx_Quarrel : xcB K [.ref E_PostError, .ref E_BadInput, .ref E_InLine, .ref E_Quarrel, .ref E_Blocked, .ref E_PostError] (.ref E_Quarrel) [false, false, false, true, false, false] = true)
    (xx_PostError : xcB K [.ref E_PostError, .ref E_BadInput, .ref E_InLine, .ref E_Quarrel, .ref E_Blocked, .ref E_PostError] (.ref E_PostError) [true, true, true, true, true, true] = true)
    (xx_InLine : xcB K [.ref E_PostError, .ref E_BadInput, .ref E_InLine, .ref E_Quarrel, .ref E_Blocked, .ref E_PostError] (.ref E_InLine) [false, false, true, false, false, false] = true)
    (xx_ValueError : xcB K [.ref E_PostError, .ref E_BadInput, .ref E_InLine, .ref E_Quarrel, .ref E_Blocked, .ref E_PostError] (.type "ValueError") [true, true, true, true, true, true] = true)
    (kt_tuple : ktB K (fun i => match i with | 1 => C_Table | _ => 0) (.type "tuple") [("NoneType", false), ("bool", false), ("int", false), ("str", false), ("list", false), ("tuple", true)] [(1, false)] = true)
    (kt_int : ktB K (fun i => match i with | 1 => C_Table | _ => 0) (.type "int") [("NoneType", false), ("bool", true), ("int", true), ("str", false), ("list", false), ("tuple", false)] [(1, false)] = true)
    (kt_bool : ktB K (fun i => match i with | 1 => C_Table | _ => 0) (.type "bool") [("NoneType", false), ("bool", true), ("int", false), ("str", false), ("list", false), ("tuple", false)] [(1, false)] = true)
    : ∃ fd : FuncData, (∀ (s : Shared) (v : Value), BindsTo s fd ⟨[v], []⟩ [("_law_script", v)]) ∧ ∀ base : Heap, K.In base → base.Ns mainGlobals mg → FnOk l.prog w K mg base (L2.CX l.prog w) 10 fa fd ["_law_script"] (spLaw K m_law_k02) := by
  have e := hfa.symm.trans (PySem.W.mg_of X Gn a_law_k02)
  cases e
  refine ⟨PySem.W.fnOf "law" "law" (defArgs s_law_k02) (defBody s_law_k02) (defScope s_law_k02) .none kV_law_k02 dc_law_k02 pm_law_k02 an_law_k02 cd_law_k02 ct_law_k02, fun s v => .of_eq rfl, fun base _ _ => ?_⟩
  have B : Bi (theG l w K mg base C_Table E_PostError E_BadInput E_InLine E_Quarrel E_Blocked) := ⟨PySem.W.mg_none_of X Gn z_len, PySem.W.mg_none_of X Gn z_int, PySem.W.mg_none_of X Gn z_range, PySem.W.mg_none_of X Gn z_list, PySem.W.mg_none_of X Gn z_isinstance, PySem.W.mg_none_of X Gn z_enumerate, PySem.W.mg_none_of X Gn z_sorted, PySem.W.mg_none_of X Gn z_str, PySem.W.mg_none_of X Gn z_tuple, PySem.W.mg_none_of X Gn z_max, PySem.W.mg_none_of X Gn z_min, PySem.W.mg_none_of X Gn z_sum, PySem.W.mg_none_of X Gn z_all, PySem.W.mg_none_of X Gn z_zip, PySem.W.mg_none_of X Gn z_iter, PySem.W.mg_none_of X Gn z_bool, PySem.W.mg_none_of X Gn z_ValueError⟩
  have F_position := fun_mk (st := s_position) l_position c_position_ h_position
  have b_position := F_position.binds (ps := ["a", "b", "c"]) fun _ _ _ _ _ _ us hl => match us, hl with | [_, _, _], _ => rfl
  have o_position := ok_position (G := (theG l w K mg base C_Table E_PostError E_BadInput E_InLine E_Quarrel E_Blocked)) F_position
  have k_position : Kn (theG l w K mg base C_Table E_PostError E_BadInput E_InLine E_Quarrel E_Blocked) 1 "position" m_position := kn_mk o_position (PySem.W.mg_of X Gn a_position) h_position b_position
  have F_threes := fun_mk (st := s_threes) l_threes c_threes_ h_threes
  have b_threes := F_threes.binds (ps := ["posts"]) fun _ _ _ _ _ _ us hl => match us, hl with | [_], _ => rfl
  have o_threes := ok_threes (G := (theG l w K mg base C_Table E_PostError E_BadInput E_InLine E_Quarrel E_Blocked)) F_threes (B := B)
  have k_threes : Kn (theG l w K mg base C_Table E_PostError E_BadInput E_InLine E_Quarrel E_Blocked) 1 "threes" m_threes := kn_mk o_threes (PySem.W.mg_of X Gn a_threes) h_threes b_threes
  have F_area := fun_mk (st := s_area) l_area c_area_ h_area
  have b_area := F_area.binds (ps := ["first", "second", "third"]) fun _ _ _ _ _ _ us hl => match us, hl with | [_, _, _], _ => rfl
  have o_area := ok_area (G := (theG l w K mg base C_Table E_PostError E_BadInput E_InLine E_Quarrel E_Blocked)) F_area
  have k_area : Kn (theG l w K mg base C_Table E_PostError E_BadInput E_InLine E_Quarrel E_Blocked) 1 "area" m_area := kn_mk o_area (PySem.W.mg_of X Gn a_area) h_area b_area
  have F_Table___eq := fun_mk (st := s_Table___eq) l_Table___eq c_Table___eq_ h_Table___eq
  have b_Table___eq := F_Table___eq.binds (ps := ["self", "other"]) fun _ _ _ _ _ _ us hl => match us, hl with | [_, _], _ => rfl
  have tn_Table : TyN (theG l w K mg base C_Table E_PostError E_BadInput E_InLine E_Quarrel E_Blocked) "Table" [("NoneType", false), ("bool", false), ("int", false), ("str", false), ("list", false), ("tuple", false)] [(1, true)] := tyN_mk (cv := (.ref C_Table)) (v := (.ref C_Table)) (.inl (PySem.W.mg_of X Gn a_C_Table)) rfl (.own _) kt_Table (by decide)
  have fl_1_posts : Fld (theG l w K mg base C_Table E_PostError E_BadInput E_InLine E_Quarrel E_Blocked) 1 "posts" := ⟨(insB_ok i_C_Table).1, n_1_posts⟩
  have fl_1_letters : Fld (theG l w K mg base C_Table E_PostError E_BadInput E_InLine E_Quarrel E_Blocked) 1 "letters" := ⟨(insB_ok i_C_Table).1, n_1_letters⟩
  have o_Table___eq := ok_Table___eq (G := (theG l w K mg base C_Table E_PostError E_BadInput E_InLine E_Quarrel E_Blocked)) F_Table___eq (B := B) (tn_Table := tn_Table) (fl_1_posts := fl_1_posts) (fl_1_letters := fl_1_letters)
  have du_1_eq : DunK (theG l w K mg base C_Table E_PostError E_BadInput E_InLine E_Quarrel E_Blocked) 2 1 "__eq__" m_Table___eq := ⟨⟨f_Table___eq, _, _, 1, by decide, o_Table___eq, a_Table___eq, i_Table___eq, j_Table___eq, b_Table___eq⟩⟩
  have F_l_pool := fun_mk (st := s_l_pool) l_l_pool c_l_pool_ h_l_pool
  have b_l_pool := F_l_pool.binds (ps := ["_law_script"]) fun _ _ _ _ _ _ us hl => match us, hl with | [_], _ => rfl
  have o_l_pool := ok_l_pool (G := (theG l w K mg base C_Table E_PostError E_BadInput E_InLine E_Quarrel E_Blocked)) F_l_pool (B := B)
  have k_l_pool : Kn (theG l w K mg base C_Table E_PostError E_BadInput E_InLine E_Quarrel E_Blocked) 1 "_law_pool" m_l_pool := kn_mk o_l_pool (PySem.W.mg_of X Gn a_l_pool) h_l_pool b_l_pool
  have F_l_draw := fun_mk (st := s_l_draw) l_l_draw c_l_draw_ h_l_draw
  have b_l_draw := F_l_draw.binds (ps := ["_law_pool_here", "_law_k", "_law_many"]) fun _ _ _ _ _ _ us hl => match us, hl with | [_, _, _], _ => rfl
  have o_l_draw := ok_l_draw (G := (theG l w K mg base C_Table E_PostError E_BadInput E_InLine E_Quarrel E_Blocked)) F_l_draw (B := B)
  have k_l_draw : Kn (theG l w K mg base C_Table E_PostError E_BadInput E_InLine E_Quarrel E_Blocked) 1 "_law_draw" m_l_draw := kn_mk o_l_draw (PySem.W.mg_of X Gn a_l_draw) h_l_draw b_l_draw
  have F_l_cross := fun_mk (st := s_l_cross) l_l_cross c_l_cross_ h_l_cross
  have b_l_cross := F_l_cross.binds (ps := ["_law_p", "_law_q", "_law_r"]) fun _ _ _ _ _ _ us hl => match us, hl with | [_, _, _], _ => rfl
  have o_l_cross := ok_l_cross (G := (theG l w K mg base C_Table E_PostError E_BadInput E_InLine E_Quarrel E_Blocked)) F_l_cross
  have k_l_cross : Kn (theG l w K mg base C_Table E_PostError E_BadInput E_InLine E_Quarrel E_Blocked) 1 "_law_cross" m_l_cross := kn_mk o_l_cross (PySem.W.mg_of X Gn a_l_cross) h_l_cross b_l_cross
  have F_turn_of := fun_mk (st := s_turn_of) l_turn_of c_turn_of_ h_turn_of
  have b_turn_of := F_turn_of.binds (ps := ["letters", "a", "b", "c"]) fun _ _ _ _ _ _ us hl => match us, hl with | [_, _, _, _], _ => rfl
  have o_turn_of := ok_turn_of (G := (theG l w K mg base C_Table E_PostError E_BadInput E_InLine E_Quarrel E_Blocked)) F_turn_of (k_position := k_position.mono (by decide))
  have k_turn_of : Kn (theG l w K mg base C_Table E_PostError E_BadInput E_InLine E_Quarrel E_Blocked) 2 "turn_of" m_turn_of := kn_mk o_turn_of (PySem.W.mg_of X Gn a_turn_of) h_turn_of b_turn_of
  have F_l_wide := fun_mk (st := s_l_wide) l_l_wide c_l_wide_ h_l_wide
  have b_l_wide := F_l_wide.binds (ps := ["_law_pool_here", "_law_at", "_law_wide_here"]) fun _ _ _ _ _ _ us hl => match us, hl with | [_, _, _], _ => rfl
  have o_l_wide := ok_l_wide (G := (theG l w K mg base C_Table E_PostError E_BadInput E_InLine E_Quarrel E_Blocked)) F_l_wide (B := B) (k_l_draw := k_l_draw.mono (by decide))
  have k_l_wide : Kn (theG l w K mg base C_Table E_PostError E_BadInput E_InLine E_Quarrel E_Blocked) 2 "_law_wide" m_l_wide := kn_mk o_l_wide (PySem.W.mg_of X Gn a_l_wide) h_l_wide b_l_wide
  have F_l_flat := fun_mk (st := s_l_flat) l_l_flat c_l_flat_ h_l_flat
  have b_l_flat := F_l_flat.binds (ps := ["_law_places"]) fun _ _ _ _ _ _ us hl => match us, hl with | [_], _ => rfl
  have o_l_flat := ok_l_flat (G := (theG l w K mg base C_Table E_PostError E_BadInput E_InLine E_Quarrel E_Blocked)) F_l_flat (B := B) (k_l_cross := k_l_cross.mono (by decide))
  have k_l_flat : Kn (theG l w K mg base C_Table E_PostError E_BadInput E_InLine E_Quarrel E_Blocked) 2 "_law_flat" m_l_flat := kn_mk o_l_flat (PySem.W.mg_of X Gn a_l_flat) h_l_flat b_l_flat
  have F_l_expected := fun_mk (st := s_l_expected) l_l_expected c_l_expected_ h_l_expected
  have b_l_expected := F_l_expected.binds (ps := ["_law_places"]) fun _ _ _ _ _ _ us hl => match us, hl with | [_], _ => rfl
  have o_l_expected := ok_l_expected (G := (theG l w K mg base C_Table E_PostError E_BadInput E_InLine E_Quarrel E_Blocked)) F_l_expected (B := B) (k_l_cross := k_l_cross.mono (by decide))
  have k_l_expected : Kn (theG l w K mg base C_Table E_PostError E_BadInput E_InLine E_Quarrel E_Blocked) 2 "_law_expected" m_l_expected := kn_mk o_l_expected (PySem.W.mg_of X Gn a_l_expected) h_l_expected b_l_expected
  have F_breaks_five := fun_mk (st := s_breaks_five) l_breaks_five c_breaks_five_ h_breaks_five
  have b_breaks_five := F_breaks_five.binds (ps := ["letters", "x", "a", "b", "c", "d"]) fun _ _ _ _ _ _ us hl => match us, hl with | [_, _, _, _, _, _], _ => rfl
  have o_breaks_five := ok_breaks_five (G := (theG l w K mg base C_Table E_PostError E_BadInput E_InLine E_Quarrel E_Blocked)) F_breaks_five (k_turn_of := k_turn_of.mono (by decide))
  have k_breaks_five : Kn (theG l w K mg base C_Table E_PostError E_BadInput E_InLine E_Quarrel E_Blocked) 3 "breaks_five" m_breaks_five := kn_mk o_breaks_five (PySem.W.mg_of X Gn a_breaks_five) h_breaks_five b_breaks_five
  have F_last_breach := fun_mk (st := s_last_breach) l_last_breach c_last_breach_ h_last_breach
  have b_last_breach := F_last_breach.binds (ps := ["letters", "a", "b", "c"]) fun _ _ _ _ _ _ us hl => match us, hl with | [_, _, _, _], _ => rfl
  have o_last_breach := ok_last_breach (G := (theG l w K mg base C_Table E_PostError E_BadInput E_InLine E_Quarrel E_Blocked)) F_last_breach (B := B) (k_breaks_five := k_breaks_five.mono (by decide)) (k_position := k_position.mono (by decide))
  have k_last_breach : Kn (theG l w K mg base C_Table E_PostError E_BadInput E_InLine E_Quarrel E_Blocked) 4 "last_breach" m_last_breach := kn_mk o_last_breach (PySem.W.mg_of X Gn a_last_breach) h_last_breach b_last_breach
  have F_breach := fun_mk (st := s_breach) l_breach c_breach_ h_breach
  have b_breach := F_breach.binds (ps := ["letters", "posts"]) fun _ _ _ _ _ _ us hl => match us, hl with | [_, _], _ => rfl
  have o_breach := ok_breach (G := (theG l w K mg base C_Table E_PostError E_BadInput E_InLine E_Quarrel E_Blocked)) F_breach (k_last_breach := k_last_breach.mono (by decide)) (k_threes := k_threes.mono (by decide))
  have k_breach : Kn (theG l w K mg base C_Table E_PostError E_BadInput E_InLine E_Quarrel E_Blocked) 5 "breach" m_breach := kn_mk o_breach (PySem.W.mg_of X Gn a_breach) h_breach b_breach
  have F_Table___init := fun_mk (st := s_Table___init) l_Table___init c_Table___init_ h_Table___init
  have b_Table___init := F_Table___init.binds (ps := ["self", "letters"]) fun _ _ _ _ _ _ us hl => match us, hl with | [_, _], _ => rfl
  have tn_str : TyN (theG l w K mg base C_Table E_PostError E_BadInput E_InLine E_Quarrel E_Blocked) "str" [("NoneType", false), ("bool", false), ("int", false), ("str", true), ("list", false), ("tuple", false)] [(1, false)] := tyN_mk (cv := (.type "str")) (v := (.ty "str")) (.inr ⟨PySem.W.mg_none_of X Gn z_str, rfl, by decide⟩) rfl (.ty _) kt_str (by decide)
  have kd_SIZES : KdI (theG l w K mg base C_Table E_PostError E_BadInput E_InLine E_Quarrel E_Blocked) "SIZES" [(1, 3), (4, 4), (10, 5), (20, 6), (35, 7), (56, 8)] := ⟨⟨A_SIZES, PySem.W.mg_of X Gn a_K_SIZES, k_K_SIZES⟩, by decide⟩
  have xf_Quarrel : ExF (theG l w K mg base C_Table E_PostError E_BadInput E_InLine E_Quarrel E_Blocked) 2 "Quarrel" 3 "posts" := exF_mk (G := (theG l w K mg base C_Table E_PostError E_BadInput E_InLine E_Quarrel E_Blocked)) (par := "posts") rfl (PySem.W.mg_of X Gn a_E_Quarrel) ol_Quarrel rv_Quarrel eb_Quarrel lx_Quarrel (PySem.W.mg_none_of X Gn z_super) tp_super (by decide +kernel) rfl rfl rfl (fun _ => rfl) (fun _ => rfl) (fun _ => rfl) (fun _ => rfl) (fun _ => rfl) rfl rfl (Binds.all fun us hl => match us, hl with | [_, _], _ => rfl)
  have x_BadInput : ExcK (theG l w K mg base C_Table E_PostError E_BadInput E_InLine E_Quarrel E_Blocked) "BadInput" 1 := ⟨⟨E_BadInput, rfl, q_BadInput, PySem.W.mg_of X Gn a_E_BadInput, ke_BadInput, sb_BadInput, ty_BadInput⟩⟩
  have o_Table___init := ok_Table___init (G := (theG l w K mg base C_Table E_PostError E_BadInput E_InLine E_Quarrel E_Blocked)) F_Table___init (B := B) (k_breach := k_breach.mono (by decide)) (x_BadInput := x_BadInput) (tn_str := tn_str) (kd_SIZES := kd_SIZES) (xf_Quarrel := xf_Quarrel.mono (by decide)) (fl_1_letters := fl_1_letters) (fl_1_posts := fl_1_posts)
  have mk_Table : MkK (theG l w K mg base C_Table E_PostError E_BadInput E_InLine E_Quarrel E_Blocked) 7 1 "Table" m_Table___init := ⟨⟨f_Table___init, _, _, 6, by decide, o_Table___init, PySem.W.mg_of X Gn a_C_Table, ⟨mk0_Table, a_Table___init, i_Table___init, kc_Table⟩, b_Table___init⟩⟩
  have F_Table_placed := fun_mk (st := s_Table_placed) l_Table_placed c_Table_placed_ h_Table_placed
  have b_Table_placed := F_Table_placed.binds (ps := ["places"]) fun _ _ _ _ _ _ us hl => match us, hl with | [_], _ => rfl
  have ci_Table_MOST_POSTS : CInt (theG l w K mg base C_Table E_PostError E_BadInput E_InLine E_Quarrel E_Blocked) "Table" "MOST_POSTS" 8 := ⟨⟨C_Table, mc_ci_Table_MOST_POSTS, .int 8 u_ci_Table_MOST_POSTS, PySem.W.mg_of X Gn a_C_Table, ⟨rd_Table, ga_Table⟩, ⟨fc_ci_Table_MOST_POSTS, ⟨_, rfl⟩⟩⟩, by decide⟩
  have xf_InLine : ExF (theG l w K mg base C_Table E_PostError E_BadInput E_InLine E_Quarrel E_Blocked) 2 "InLine" 2 "posts" := exF_mk (G := (theG l w K mg base C_Table E_PostError E_BadInput E_InLine E_Quarrel E_Blocked)) (par := "posts") rfl (PySem.W.mg_of X Gn a_E_InLine) ol_InLine rv_InLine eb_InLine lx_InLine (PySem.W.mg_none_of X Gn z_super) tp_super (by decide +kernel) rfl rfl rfl (fun _ => rfl) (fun _ => rfl) (fun _ => rfl) (fun _ => rfl) (fun _ => rfl) rfl rfl (Binds.all fun us hl => match us, hl with | [_, _], _ => rfl)
  have o_Table_placed := ok_Table_placed (G := (theG l w K mg base C_Table E_PostError E_BadInput E_InLine E_Quarrel E_Blocked)) F_Table_placed (B := B) (k_area := k_area.mono (by decide)) (k_threes := k_threes.mono (by decide)) (x_BadInput := x_BadInput) (ci_Table_MOST_POSTS := ci_Table_MOST_POSTS) (xf_InLine := xf_InLine.mono (by decide)) (mk_Table := mk_Table.mono (by decide))
  have st_Table_placed : StaK (theG l w K mg base C_Table E_PostError E_BadInput E_InLine E_Quarrel E_Blocked) 8 "Table" "placed" m_Table_placed := ⟨⟨C_Table, p_Table_placed, f_Table_placed, mc_Table_placed, rs_Table_placed, _, _, 8, Nat.le_refl _, o_Table_placed, PySem.W.mg_of X Gn a_C_Table, ⟨rdm_Table_placed, ga_Table⟩, fs_Table_placed, rc_Table_placed, h_Table_placed, b_Table_placed⟩, by decide⟩
  have F_law_k02 := fun_mk (st := s_law_k02) l_law_k02 c_law_k02_ h_law_k02
  have b_law_k02 := F_law_k02.binds (ps := ["_law_script"]) fun _ _ _ _ _ _ us hl => match us, hl with | [_], _ => rfl
  have xa_posts : XfK (theG l w K mg base C_Table E_PostError E_BadInput E_InLine E_Quarrel E_Blocked) "posts" := ⟨fun c hc => match c, hc with | 0, _ => ⟨E_PostError, rfl, xfkB_ok xk_posts_PostError⟩ | 1, _ => ⟨E_BadInput, rfl, xfkB_ok xk_posts_BadInput⟩ | 2, _ => ⟨E_InLine, rfl, xfkB_ok xk_posts_InLine⟩ | 3, _ => ⟨E_Quarrel, rfl, xfkB_ok xk_posts_Quarrel⟩ | 4, _ => ⟨E_Blocked, rfl, xfkB_ok xk_posts_Blocked⟩ | 5, _ => ⟨E_PostError, rfl, xfkB_ok xk_posts_PostError⟩ | (n + 6), hc => absurd hc (by omega)⟩
  have xn_BadInput : XcN (theG l w K mg base C_Table E_PostError E_BadInput E_InLine E_Quarrel E_Blocked) "BadInput" [false, true, false, false, false, false] := xcN_mk (es := [.ref E_PostError, .ref E_BadInput, .ref E_InLine, .ref E_Quarrel, .ref E_Blocked, .ref E_PostError]) (cv := (.ref E_BadInput)) (v := (.ref E_BadInput)) (.inl (PySem.W.mg_of X Gn a_E_BadInput)) rfl (fun u r => r) (fun c b hb => match c, hb with | 0, _ => rfl | 1, _ => rfl | 2, _ => rfl | 3, _ => rfl | 4, _ => rfl | 5, _ => rfl | (n + 6), hb => by simp at hb) xx_BadInput (by decide)
  have XI : ∀ c, c < 6 → XcI (theG l w K mg base C_Table E_PostError E_BadInput E_InLine E_Quarrel E_Blocked) c := fun c hc => match c, hc with | 0, _ => ⟨⟨E_PostError, rfl, excCB_ok xi_PostError⟩⟩ | 1, _ => ⟨⟨E_BadInput, rfl, excCB_ok xi_BadInput⟩⟩ | 2, _ => ⟨⟨E_InLine, rfl, excCB_ok xi_InLine⟩⟩ | 3, _ => ⟨⟨E_Quarrel, rfl, excCB_ok xi_Quarrel⟩⟩ | 4, _ => ⟨⟨E_Blocked, rfl, excCB_ok xi_Blocked⟩⟩ | 5, _ => ⟨⟨E_PostError, rfl, excCB_ok xi_PostError⟩⟩ | (n + 6), hc => absurd hc (by omega)
  have xn_Quarrel : XcN (theG l w K mg base C_Table E_PostError E_BadInput E_InLine E_Quarrel E_Blocked) "Quarrel" [false, false, false, true, false, false] := xcN_mk (es := [.ref E_PostError, .ref E_BadInput, .ref E_InLine, .ref E_Quarrel, .ref E_Blocked, .ref E_PostError]) (cv := (.ref E_Quarrel)) (v := (.ref E_Quarrel)) (.inl (PySem.W.mg_of X Gn a_E_Quarrel)) rfl (fun u r => r) (fun c b hb => match c, hb with | 0, _ => rfl | 1, _ => rfl | 2, _ => rfl | 3, _ => rfl | 4, _ => rfl | 5, _ => rfl | (n + 6), hb => by simp at hb) xx_Quarrel (by decide)
  have xn_PostError : XcN (theG l w K mg base C_Table E_PostError E_BadInput E_InLine E_Quarrel E_Blocked) "PostError" [true, true, true, true, true, true] := xcN_mk (es := [.ref E_PostError, .ref E_BadInput, .ref E_InLine, .ref E_Quarrel, .ref E_Blocked, .ref E_PostError]) (cv := (.ref E_PostError)) (v := (.ref E_PostError)) (.inl (PySem.W.mg_of X Gn a_E_PostError)) rfl (fun u r => r) (fun c b hb => match c, hb with | 0, _ => rfl | 1, _ => rfl | 2, _ => rfl | 3, _ => rfl | 4, _ => rfl | 5, _ => rfl | (n + 6), hb => by simp at hb) xx_PostError (by decide)
  have xn_InLine : XcN (theG l w K mg base C_Table E_PostError E_BadInput E_InLine E_Quarrel E_Blocked) "InLine" [false, false, true, false, false, false] := xcN_mk (es := [.ref E_PostError, .ref E_BadInput, .ref E_InLine, .ref E_Quarrel, .ref E_Blocked, .ref E_PostError]) (cv := (.ref E_InLine)) (v := (.ref E_InLine)) (.inl (PySem.W.mg_of X Gn a_E_InLine)) rfl (fun u r => r) (fun c b hb => match c, hb with | 0, _ => rfl | 1, _ => rfl | 2, _ => rfl | 3, _ => rfl | 4, _ => rfl | 5, _ => rfl | (n + 6), hb => by simp at hb) xx_InLine (by decide)
  have xn_ValueError : XcN (theG l w K mg base C_Table E_PostError E_BadInput E_InLine E_Quarrel E_Blocked) "ValueError" [true, true, true, true, true, true] := xcN_mk (es := [.ref E_PostError, .ref E_BadInput, .ref E_InLine, .ref E_Quarrel, .ref E_Blocked, .ref E_PostError]) (cv := (.type "ValueError")) (v := (.ty "ValueError")) (.inr ⟨PySem.W.mg_none_of X Gn z_ValueError, rfl, by decide⟩) rfl (fun u r => r) (fun c b hb => match c, hb with | 0, _ => rfl | 1, _ => rfl | 2, _ => rfl | 3, _ => rfl | 4, _ => rfl | 5, _ => rfl | (n + 6), hb => by simp at hb) xx_ValueError (by decide)
  have tn_tuple : TyN (theG l w K mg base C_Table E_PostError E_BadInput E_InLine E_Quarrel E_Blocked) "tuple" [("NoneType", false), ("bool", false), ("int", false), ("str", false), ("list", false), ("tuple", true)] [(1, false)] := tyN_mk (cv := (.type "tuple")) (v := (.ty "tuple")) (.inr ⟨PySem.W.mg_none_of X Gn z_tuple, rfl, by decide⟩) rfl (.ty _) kt_tuple (by decide)
  have tn_int : TyN (theG l w K mg base C_Table E_PostError E_BadInput E_InLine E_Quarrel E_Blocked) "int" [("NoneType", false), ("bool", true), ("int", true), ("str", false), ("list", false), ("tuple", false)] [(1, false)] := tyN_mk (cv := (.type "int")) (v := (.ty "int")) (.inr ⟨PySem.W.mg_none_of X Gn z_int, rfl, by decide⟩) rfl (.ty _) kt_int (by decide)
  have tn_bool : TyN (theG l w K mg base C_Table E_PostError E_BadInput E_InLine E_Quarrel E_Blocked) "bool" [("NoneType", false), ("bool", true), ("int", false), ("str", false), ("list", false), ("tuple", false)] [(1, false)] := tyN_mk (cv := (.type "bool")) (v := (.ty "bool")) (.inr ⟨PySem.W.mg_none_of X Gn z_bool, rfl, by decide⟩) rfl (.ty _) kt_bool (by decide)
  have o_law_k02 := ok_law_k02 (G := (theG l w K mg base C_Table E_PostError E_BadInput E_InLine E_Quarrel E_Blocked)) F_law_k02 (B := B) (k_l_draw := k_l_draw.mono (by decide)) (k_l_expected := k_l_expected.mono (by decide)) (k_l_flat := k_l_flat.mono (by decide)) (k_l_pool := k_l_pool.mono (by decide)) (k_l_wide := k_l_wide.mono (by decide)) (st_Table_placed := st_Table_placed.mono (by decide)) (fl_1_letters := fl_1_letters) (fl_1_posts := fl_1_posts) (mk_Table := mk_Table.mono (by decide)) (du_1_eq := du_1_eq.mono (by decide)) (xa_posts := xa_posts) (xn_BadInput := xn_BadInput) (XI := XI) (xn_Quarrel := xn_Quarrel) (xn_PostError := xn_PostError) (xn_InLine := xn_InLine) (xn_ValueError := xn_ValueError) (tn_tuple := tn_tuple) (tn_int := tn_int) (tn_bool := tn_bool)
  have k_law_k02 : Kn (theG l w K mg base C_Table E_PostError E_BadInput E_InLine E_Quarrel E_Blocked) 10 "law" m_law_k02 := kn_mk o_law_k02 (PySem.W.mg_of X Gn a_law_k02) h_law_k02 b_law_k02
  exact o_law_k02.imp fun vs H Q E z => law_imp (G := (theG l w K mg base C_Table E_PostError E_BadInput E_InLine E_Quarrel E_Blocked)) z
theorem walk {l : PySem.W.OpenLaw} {q : Program} {loose : List Str} {XP : (Str → Option Value) → Heap → Prop} {YP : World → Heap → Prop} {d : DefRec} {K : Params → PySem.W.Frag} (hn : l.most = some 63) (hdf : d.params.defaults = [])
    (hm : ∀ ns : List Int, ns.length ≤ 63 → (∀ z ∈ ns, Builtin.Int.intBits z ≤ 1048576) → m_law_k02 [.scr ns] = .ok (.bl true))
    (hY : ∀ (w : World) (h : Heap), YP w h → (K w.params).In h)
    (F : ∀ (w : World) (mg : Str → Option Value) (fa : Addr) (h : Heap), (K w.params).In h → h.Ns mainGlobals mg → mg d.name = some (.ref fa) →
      ∃ fd : FuncData, (∀ (s : Shared) (v : Value), BindsTo s fd ⟨[v], []⟩ [("_law_script", v)]) ∧ ∀ base : Heap, (K w.params).In base → base.Ns mainGlobals mg → FnOk l.prog w (K w.params) mg base (L2.CX l.prog w) 10 fa fd ["_law_script"] (spLaw (K w.params) m_law_k02)) :
    PySem.W.WalkO q loose XP YP l.row.toRowW d [] (fun f vs => PySem.call f vs) :=
  L2.walk_ofB (n := 63) (k := 10) (x := "_law_script") (CX := fun w => L2.CX l.prog w) (sp := fun w => spLaw (K w.params) m_law_k02) hn (by decide) hdf ⟨rfl, by decide, by decide⟩ hY F (fun _ _ a ns hl hb _ hS => ⟨a, ns, rfl, hS, hm ns hl hb, fun _ => rfl⟩) fun _ _ _ _ _ z => by
    obtain ⟨_, _, _, _, _, _, _, _, _, _, _, _, z⟩ := z
    exact z
end Mir
open PySem PySem.W PyProof.Rows in
set_option maxRecDepth 100000 in
set_option maxHeartbeats 0 in
theorem PySem.Challenge.cw_movedposts_k02_placed_tables_holds : PySem.Challenge.rw_movedposts_k02_placed_tables.Holds := by
  w_on; o_law; k_head; (case hw => w_witness2)
  k_fill
  refine Mir.walk (l := PySem.Challenge.rw_movedposts_k02_placed_tables) rfl rfl Mir.law_k02_true (fun w h Y => PySem.W.kIn_of Y) ?F
  case F =>
    intro w mg fa h KX G hmg
    refine' Mir.all_mk KX G hmg ?a_C_Table ?i_C_Table ?a_E_PostError ?a_E_BadInput ?a_E_InLine ?a_E_Quarrel ?a_E_Blocked ?z_len ?z_int ?z_range ?z_list ?z_isinstance ?z_enumerate ?z_sorted ?z_str ?z_tuple ?z_max ?z_min ?z_sum ?z_all ?z_zip ?z_iter ?z_bool ?z_ValueError ?a_position ?l_position ?c_position_ ?h_position ?a_threes ?l_threes ?c_threes_ ?h_threes ?a_area ?l_area ?c_area_ ?h_area ?a_Table___eq ?i_Table___eq ?j_Table___eq ?l_Table___eq ?c_Table___eq_ ?h_Table___eq ?kt_Table ?n_1_posts ?n_1_letters ?a_l_pool ?l_l_pool ?c_l_pool_ ?h_l_pool ?a_l_draw ?l_l_draw ?c_l_draw_ ?h_l_draw ?a_l_cross ?l_l_cross ?c_l_cross_ ?h_l_cross ?a_turn_of ?l_turn_of ?c_turn_of_ ?h_turn_of ?a_l_wide ?l_l_wide ?c_l_wide_ ?h_l_wide ?a_l_flat ?l_l_flat ?c_l_flat_ ?h_l_flat ?a_l_expected ?l_l_expected ?c_l_expected_ ?h_l_expected ?a_breaks_five ?l_breaks_five ?c_breaks_five_ ?h_breaks_five ?a_last_breach ?l_last_breach ?c_last_breach_ ?h_last_breach ?a_breach ?l_breach ?c_breach_ ?h_breach ?a_Table___init ?i_Table___init ?j_Table___init ?l_Table___init ?c_Table___init_ ?h_Table___init ?kt_str ?a_K_SIZES ?k_K_SIZES ?ol_Quarrel ?rv_Quarrel ?ax_Quarrel ?lx_Quarrel ?eb_Quarrel ?z_super ?tp_super ?q_BadInput ?ke_BadInput ?sb_BadInput ?ty_BadInput ?mk0_Table ?kc_Table ?tm_Table_placed ?rdm_Table_placed ?ga_Table ?fs_Table_placed ?rc_Table_placed ?l_Table_placed ?c_Table_placed_ ?h_Table_placed ?tm_ci_Table_MOST_POSTS ?rd_Table ?fc_ci_Table_MOST_POSTS ?ol_InLine ?rv_InLine ?ax_InLine ?lx_InLine ?eb_InLine ?a_law_k02 ?l_law_k02 ?c_law_k02_ ?h_law_k02 ?xk_posts_PostError ?xk_posts_BadInput ?xk_posts_InLine ?xk_posts_Quarrel ?xk_posts_Blocked ?xx_BadInput ?xi_PostError ?xi_BadInput ?xi_InLine ?xi_Quarrel ?xi_Blocked ?xx_Quarrel ?xx_PostError ?xx_InLine ?xx_ValueError ?kt_tuple ?kt_int ?kt_bool
    (case a_C_Table => first | k_is | k_exc | kernel_rfl)
    (case i_C_Table => first | k_is | k_exc | kernel_rfl)
    (case a_E_PostError => first | k_is | k_exc | kernel_rfl)
    (case a_E_BadInput => first | k_is | k_exc | kernel_rfl)
    (case a_E_InLine => first | k_is | k_exc | kernel_rfl)
    (case a_E_Quarrel => first | k_is | k_exc | kernel_rfl)
    (case a_E_Blocked => first | k_is | k_exc | kernel_rfl)
    (case z_len => first | k_is | k_exc | kernel_rfl)
    (case z_int => first | k_is | k_exc | kernel_rfl)
    (case z_range => first | k_is | k_exc | kernel_rfl)
    (case z_list => first | k_is | k_exc | kernel_rfl)
    (case z_isinstance => first | k_is | k_exc | kernel_rfl)
    (case z_enumerate => first | k_is | k_exc | kernel_rfl)
    (case z_sorted => first | k_is | k_exc | kernel_rfl)
    (case z_str => first | k_is | k_exc | kernel_rfl)
    (case z_tuple => first | k_is | k_exc | kernel_rfl)
    (case z_max => first | k_is | k_exc | kernel_rfl)
    (case z_min => first | k_is | k_exc | kernel_rfl)
    (case z_sum => first | k_is | k_exc | kernel_rfl)
    (case z_all => first | k_is | k_exc | kernel_rfl)
    (case z_zip => first | k_is | k_exc | kernel_rfl)
    (case z_iter => first | k_is | k_exc | kernel_rfl)
    (case z_bool => first | k_is | k_exc | kernel_rfl)
    (case z_ValueError => first | k_is | k_exc | kernel_rfl)
    (case a_position => first | k_is | k_exc | kernel_rfl)
    (case l_position => first | k_is | k_exc | kernel_rfl)
    (case c_position_ => first | k_is | k_exc | kernel_rfl)
    (case h_position => first | k_is | k_exc | kernel_rfl)
    (case a_threes => first | k_is | k_exc | kernel_rfl)
    (case l_threes => first | k_is | k_exc | kernel_rfl)
    (case c_threes_ => first | k_is | k_exc | kernel_rfl)
    (case h_threes => first | k_is | k_exc | kernel_rfl)
    (case a_area => first | k_is | k_exc | kernel_rfl)
    (case l_area => first | k_is | k_exc | kernel_rfl)
    (case c_area_ => first | k_is | k_exc | kernel_rfl)
    (case h_area => first | k_is | k_exc | kernel_rfl)
    (case a_Table___eq => first | k_is | k_exc | kernel_rfl)
    (case i_Table___eq => first | k_is | k_exc | kernel_rfl)
    (case j_Table___eq => first | k_is | k_exc | kernel_rfl)
    (case l_Table___eq => first | k_is | k_exc | kernel_rfl)
    (case c_Table___eq_ => first | k_is | k_exc | kernel_rfl)
    (case h_Table___eq => first | k_is | k_exc | kernel_rfl)
    (case kt_Table => first | k_is | k_exc | kernel_rfl)
    (case n_1_posts => first | k_is | k_exc | kernel_rfl)
    (case n_1_letters => first | k_is | k_exc | kernel_rfl)
    (case a_l_pool => first | k_is | k_exc | kernel_rfl)
    (case l_l_pool => first | k_is | k_exc | kernel_rfl)
    (case c_l_pool_ => first | k_is | k_exc | kernel_rfl)
    (case h_l_pool => first | k_is | k_exc | kernel_rfl)
    (case a_l_draw => first | k_is | k_exc | kernel_rfl)
    (case l_l_draw => first | k_is | k_exc | kernel_rfl)
    (case c_l_draw_ => first | k_is | k_exc | kernel_rfl)
    (case h_l_draw => first | k_is | k_exc | kernel_rfl)
    (case a_l_cross => first | k_is | k_exc | kernel_rfl)
    (case l_l_cross => first | k_is | k_exc | kernel_rfl)
    (case c_l_cross_ => first | k_is | k_exc | kernel_rfl)
    (case h_l_cross => first | k_is | k_exc | kernel_rfl)
    (case a_turn_of => first | k_is | k_exc | kernel_rfl)
    (case l_turn_of => first | k_is | k_exc | kernel_rfl)
    (case c_turn_of_ => first | k_is | k_exc | kernel_rfl)
    (case h_turn_of => first | k_is | k_exc | kernel_rfl)
    (case a_l_wide => first | k_is | k_exc | kernel_rfl)
    (case l_l_wide => first | k_is | k_exc | kernel_rfl)
    (case c_l_wide_ => first | k_is | k_exc | kernel_rfl)
    (case h_l_wide => first | k_is | k_exc | kernel_rfl)
    (case a_l_flat => first | k_is | k_exc | kernel_rfl)
    (case l_l_flat => first | k_is | k_exc | kernel_rfl)
    (case c_l_flat_ => first | k_is | k_exc | kernel_rfl)
    (case h_l_flat => first | k_is | k_exc | kernel_rfl)
    (case a_l_expected => first | k_is | k_exc | kernel_rfl)
    (case l_l_expected => first | k_is | k_exc | kernel_rfl)
    (case c_l_expected_ => first | k_is | k_exc | kernel_rfl)
    (case h_l_expected => first | k_is | k_exc | kernel_rfl)
    (case a_breaks_five => first | k_is | k_exc | kernel_rfl)
    (case l_breaks_five => first | k_is | k_exc | kernel_rfl)
    (case c_breaks_five_ => first | k_is | k_exc | kernel_rfl)
    (case h_breaks_five => first | k_is | k_exc | kernel_rfl)
    (case a_last_breach => first | k_is | k_exc | kernel_rfl)
    (case l_last_breach => first | k_is | k_exc | kernel_rfl)
    (case c_last_breach_ => first | k_is | k_exc | kernel_rfl)
    (case h_last_breach => first | k_is | k_exc | kernel_rfl)
    (case a_breach => first | k_is | k_exc | kernel_rfl)
    (case l_breach => first | k_is | k_exc | kernel_rfl)
    (case c_breach_ => first | k_is | k_exc | kernel_rfl)
    (case h_breach => first | k_is | k_exc | kernel_rfl)
    (case a_Table___init => first | k_is | k_exc | kernel_rfl)
    (case i_Table___init => first | k_is | k_exc | kernel_rfl)
    (case j_Table___init => first | k_is | k_exc | kernel_rfl)
    (case l_Table___init => first | k_is | k_exc | kernel_rfl)
    (case c_Table___init_ => first | k_is | k_exc | kernel_rfl)
    (case h_Table___init => first | k_is | k_exc | kernel_rfl)
    (case kt_str => first | k_is | k_exc | kernel_rfl)
    (case a_K_SIZES => first | k_is | k_exc | kernel_rfl)
    (case k_K_SIZES => first | k_is | k_exc | kernel_rfl)
    (case ol_Quarrel => first | k_is | k_exc | kernel_rfl)
    (case rv_Quarrel => first | k_is | k_exc | kernel_rfl)
    (case ax_Quarrel => first | k_is | k_exc | kernel_rfl)
    (case lx_Quarrel => first | k_is | k_exc | kernel_rfl)
    (case eb_Quarrel => first | k_is | k_exc | kernel_rfl)
    (case z_super => first | k_is | k_exc | kernel_rfl)
    (case tp_super => first | k_is | k_exc | kernel_rfl)
    (case q_BadInput => first | k_is | k_exc | kernel_rfl)
    (case ke_BadInput => first | k_is | k_exc | kernel_rfl)
    (case sb_BadInput => first | k_is | k_exc | kernel_rfl)
    (case ty_BadInput => first | k_is | k_exc | kernel_rfl)
    (case mk0_Table => first | k_is | k_exc | kernel_rfl)
    (case kc_Table => first | k_is | k_exc | kernel_rfl)
    (case tm_Table_placed => first | k_is | k_exc | kernel_rfl)
    (case rdm_Table_placed => first | k_is | k_exc | kernel_rfl)
    (case ga_Table => first | k_is | k_exc | kernel_rfl)
    (case fs_Table_placed => first | k_is | k_exc | kernel_rfl)
    (case rc_Table_placed => first | k_is | k_exc | kernel_rfl)
    (case l_Table_placed => first | k_is | k_exc | kernel_rfl)
    (case c_Table_placed_ => first | k_is | k_exc | kernel_rfl)
    (case h_Table_placed => first | k_is | k_exc | kernel_rfl)
    (case tm_ci_Table_MOST_POSTS => first | k_is | k_exc | kernel_rfl)
    (case rd_Table => first | k_is | k_exc | kernel_rfl)
    (case fc_ci_Table_MOST_POSTS => first | k_is | k_exc | kernel_rfl)
    (case ol_InLine => first | k_is | k_exc | kernel_rfl)
    (case rv_InLine => first | k_is | k_exc | kernel_rfl)
    (case ax_InLine => first | k_is | k_exc | kernel_rfl)
    (case lx_InLine => first | k_is | k_exc | kernel_rfl)
    (case eb_InLine => first | k_is | k_exc | kernel_rfl)
    (case a_law_k02 => first | k_is | k_exc | kernel_rfl)
    (case l_law_k02 => first | k_is | k_exc | kernel_rfl)
    (case c_law_k02_ => first | k_is | k_exc | kernel_rfl)
    (case h_law_k02 => first | k_is | k_exc | kernel_rfl)
    (case xk_posts_PostError => first | k_is | k_exc | kernel_rfl)
    (case xk_posts_BadInput => first | k_is | k_exc | kernel_rfl)
    (case xk_posts_InLine => first | k_is | k_exc | kernel_rfl)
    (case xk_posts_Quarrel => first | k_is | k_exc | kernel_rfl)
    (case xk_posts_Blocked => first | k_is | k_exc | kernel_rfl)
    (case xx_BadInput => first | k_is | k_exc | kernel_rfl)
    (case xi_PostError => first | k_is | k_exc | kernel_rfl)
    (case xi_BadInput => first | k_is | k_exc | kernel_rfl)
    (case xi_InLine => first | k_is | k_exc | kernel_rfl)
    (case xi_Quarrel => first | k_is | k_exc | kernel_rfl)
    (case xi_Blocked => first | k_is | k_exc | kernel_rfl)
    (case xx_Quarrel => first | k_is | k_exc | kernel_rfl)
    (case xx_PostError => first | k_is | k_exc | kernel_rfl)
    (case xx_InLine => first | k_is | k_exc | kernel_rfl)
    (case xx_ValueError => first | k_is | k_exc | kernel_rfl)
    (case kt_tuple => first | k_is | k_exc | kernel_rfl)
    (case kt_int => first | k_is | k_exc | kernel_rfl)
    (case kt_bool => first | k_is | k_exc | kernel_rfl)
namespace Mir
end Mir
