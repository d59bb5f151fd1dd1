import PyProof.Rows.All
import Wide.All
import OpenK.AllK
import Wide.FinOn
import HandS.ForMost
import HandS.ForExc
import HandS.IsInst
import HandS.TryOnly
import KE.GoesMore
import HandS.Style
import HandS.ExcIs
import KE.KExcIs
import HandS.Lambda
import HandS.StrMore
import HandS.ClsMeth
import HandS.Star
import HandS.SlotsOwn
import HandS.OwnIter
import HandS.IterVal
import HandS.EndBits
import KE.KOpsOwn
import KE.LtData
import KE.DatumOrd
import HandS.SortInts
import HandS.Conv
import HandS.ExcInit
import HandS.ExcField
import KE.KExcSuper
import HandS.Dict
import HandS.TryMany
import HandS.SortKw
import KE.SortKeyHeap
import PyProof.StrOps2
import HandS.Zip
import HandS.Sort
import HandS.SortOrd
import HandS.SortRule
import HandS.ListEq
import KE.KEqDict
import HandS.GenList
import KE.GoesComp
import HandS.List
import KE.DataMinMax
import HandS.More
import PyProof.RulesMatch
import PyProof.RulesMatchSeq
import PyProof.Rows.MatchSeqLen
import HandS.HotCalls
import HandS.Text
import PyProof.WalksMore
import PyProof.CollectIter
import PyProof.Rows.TupIter
import PyProof.TupleOfSeq
import HandS.Property
import HandS.Defaults
import HandS.DictComp
import HandS.Iter
import PyProof.Rows.SortShellAny
import PyProof.Rows.StrMeet
import HandS.TupLen
import HandS.WordsExc
import HandS.Deep
import PySem.Challenge.RW_movedposts_k10_rims
import HandS.HeadWalk
set_option Elab.async false
set_option linter.all false
set_option maxRecDepth 100000
namespace Mir
open PySem PySem.Spec L2
inductive D where
  | non | bl (b : Bool) | int (i : Int) | str (x : Str)
  | tup (xs : List D) | lst (xs : List D)
  | dct (kvs : List (List Key × D))
  | dks (kvs : List (Key × D))
  | obj (c : Nat) (fs : List (Str × D))
  | slf (a : Addr) (c : Nat) (fs : List (Str × D))
  | scr (ns : List Int)
  | adr (a : Addr)
  | ktp (xs : List D)
structure Exc where
  c : Nat
  fs : List (Str × D)
inductive M (α : Type) where
  | stk | exn (e : Exc) | ok (a : α)
namespace M
def bind {α β : Type} (m : M α) (k : α → M β) : M β := match m with
  | stk => stk
  | exn e => exn e
  | ok a => k a
instance : Monad M where
  pure := ok
  bind := bind
def nox {α : Type} : M α → M α
  | exn _ => stk
  | m => m
end M
inductive Ctl (X S : Type) where
  | stk | exn (e : Exc) (x : X) | ret (d : D) | nx (s : S)
namespace Ctl
def bind {X S T : Type} (c : Ctl X S) (k : S → Ctl X T) : Ctl X T := match c with
  | stk => stk
  | exn e x => exn e x
  | ret d => ret d
  | nx s => k s
end Ctl
def M.bindC {X S α : Type} (m : M α) (x : X) (k : α → Ctl X S) : Ctl X S := match m with
  | .stk => .stk
  | .exn e => .exn e x
  | .ok a => k a
def Ctl.toM {X S : Type} : Ctl X S → M D
  | .stk => .stk
  | .exn e _ => .exn e
  | .ret d => .ok d
  | .nx _ => .ok .non
structure GG where
  P : Program
  w : World
  K : PySem.W.Frag
  mg : Str → Option Value
  base : Heap
  ca : Nat → Addr
  xc : Nat → Value
abbrev Ex (H H' : Hp) : Prop := Same H H'
def KTup (K : PySem.W.Frag) (p : Addr) (vs : List V) : Prop := ∃ (o : Obj) (its : Array Value) (n : Nat), K.lookup p = some o ∧ o.cls = .type "tuple" ∧ o.data = .seq its n ∧ its.size ≤ sizeLine ∧ Vals vs its.toList
mutual
inductive KRep (G : GG) : V → D → Prop
  | int (i : Int) : KRep G (.int i) (.int i)
  | ktp {p : Addr} {vs : List V} {ds : List D} : KTup G.K p vs → KReps G vs ds → KRep G (.ref p) (.ktp ds)
inductive KReps (G : GG) : List V → List D → Prop
  | nil : KReps G [] []
  | cons {v : V} {vs : List V} {d : D} {ds : List D} : KRep G v d → KReps G vs ds → KReps G (v :: vs) (d :: ds)
end
mutual
inductive Rep (G : GG) (S : Hp) : V → D → Prop
  | non : Rep G S .non .non
  | bl (b : Bool) : Rep G S (.bl b) (.bl b)
  | int (i : Int) : Rep G S (.int i) (.int i)
  | str (x : Str) : Rep G S (.str x) (.str x)
  | tup {p : Addr} {vs : List V} {ds : List D} : S p = some (.tup vs) → Reps G S vs ds → Rep G S (.ref p) (.tup ds)
  | lst {p : Addr} {vs : List V} {ds : List D} : S p = some (.lst vs) → Reps G S vs ds → Rep G S (.ref p) (.lst ds)
  | scr {p : Addr} {ns : List Int} : SqL G.K S p (ns.map V.int) → Rep G S (.ref p) (.scr ns)
  | dct {p : Addr} {ks : List (List Key × V)} {kvs : List (List Key × D)} : Rd S p (.dT ks) → ks.map (·.1) = kvs.map (·.1) → Reps G S (ks.map (·.2)) (kvs.map (·.2)) → Rep G S (.ref p) (.dct kvs)
  | dks {p : Addr} {ks : List (Key × V)} {kvs : List (Key × D)} : Rd S p (.dK ks) → ks.map (·.1) = kvs.map (·.1) → Reps G S (ks.map (·.2)) (kvs.map (·.2)) → Rep G S (.ref p) (.dks kvs)
  | obj {a dx : Addr} {c : Nat} {vs : List (Str × V)} {fs : List (Str × D)} : S a = some (.ins (G.ca c) dx vs) → S dx = some (HO.own a) → vs.map (·.1) = fs.map (·.1) → Reps G S (vs.map (·.2)) (fs.map (·.2)) → Rep G S (.ref a) (.obj c fs)
  | adr (a : Addr) : Rep G S (.ref a) (.adr a)
  | kt {p : Addr} {vs : List V} {ds : List D} : KTup G.K p vs → KReps G vs ds → Rep G S (.ref p) (.ktp ds)
  | slf {a dx : Addr} {c : Nat} {vs : List (Str × V)} {fs : List (Str × D)} : S a = some (.ins (G.ca c) dx vs) → S dx = some (HO.own a) → vs.map (·.1) = fs.map (·.1) → Reps G S (vs.map (·.2)) (fs.map (·.2)) → Rep G S (.ref a) (.slf a c fs)
inductive Reps (G : GG) (S : Hp) : List V → List D → Prop
  | nil : Reps G S [] []
  | cons {v : V} {vs : List V} {d : D} {ds : List D} : Rep G S v d → Reps G S vs ds → Reps G S (v :: vs) (d :: ds)
end
section
variable {G : GG} {S S' : Hp}
theorem ex_rd {a : Addr} {u : HO} (e : Ex S S') (h : Rd S a u) : Rd S' a u := by
  rcases h with h | ⟨o, h⟩
  · exact Or.inl (e a _ h)
  · exact Or.inr ⟨o, e a _ h⟩
theorem ex_l {K : PySem.W.Frag} {a : Addr} {xs : List V} (e : Ex S S') (h : SqL K S a xs) : SqL K S' a xs := by
  rcases h with h | h
  · exact Or.inl (ex_rd e h)
  · exact Or.inr h
theorem ex_t {K : PySem.W.Frag} {a : Addr} {xs : List V} (e : Ex S S') (h : SqT K S a xs) : SqT K S' a xs := by
  rcases h with h | h
  · exact Or.inl (ex_rd e h)
  · exact Or.inr h
mutual
theorem Rep.mono (e : Ex S S') : ∀ {v : V} {d : D}, Rep G S v d → Rep G S' v d
  | _, _, .non => .non
  | _, _, .bl b => .bl b
  | _, _, .int i => .int i
  | _, _, .str x => .str x
  | _, _, .tup h r => .tup (e _ _ h) (Reps.mono e r)
  | _, _, .lst h r => .lst (e _ _ h) (Reps.mono e r)
  | _, _, .scr h => .scr (ex_l e h)
  | _, _, .dct h n r => .dct (ex_rd e h) n (Reps.mono e r)
  | _, _, .dks h n r => .dks (ex_rd e h) n (Reps.mono e r)
  | _, _, .adr a => .adr a
  | _, _, .kt k r => .kt k r
  | _, _, .obj h k n r => .obj (e _ _ h) (e _ _ k) n (Reps.mono e r)
  | _, _, .slf h k n r => .slf (e _ _ h) (e _ _ k) n (Reps.mono e r)
theorem Reps.mono (e : Ex S S') : ∀ {vs : List V} {ds : List D}, Reps G S vs ds → Reps G S' vs ds
  | _, _, .nil => .nil
  | _, _, .cons h r => .cons (Rep.mono e h) (Reps.mono e r)
end
mutual
theorem KRep.rep : ∀ {v : V} {d : D}, KRep G v d → Rep G S v d
  | _, _, .int i => .int i
  | _, _, .ktp h r => .kt h r
theorem KReps.reps : ∀ {vs : List V} {ds : List D}, KReps G vs ds → Reps G S vs ds
  | _, _, .nil => .nil
  | _, _, .cons h r => .cons (KRep.rep h) (KReps.reps r)
end
theorem Reps.length : ∀ {vs : List V} {ds : List D}, Reps G S vs ds → vs.length = ds.length
  | _, _, .nil => rfl
  | _, _, .cons _ r => congrArg Nat.succ (Reps.length r)
theorem Reps.get : ∀ {vs : List V} {ds : List D} {i : Nat} {d : D}, Reps G S vs ds → ds[i]? = some d → ∃ v, vs[i]? = some v ∧ Rep G S v d
  | _, _, _, _, .nil, e => by simp at e
  | _, _, 0, _, .cons h _, e => by
    simp at e
    subst e
    exact ⟨_, rfl, h⟩
  | _, _, i + 1, _, .cons _ r, e => by
    obtain ⟨v, h1, h2⟩ := Reps.get (i := i) r (by simpa using e)
    exact ⟨v, by simpa using h1, h2⟩
theorem Reps.append : ∀ {vs : List V} {ds : List D} {us : List V} {es : List D}, Reps G S vs ds → Reps G S us es → Reps G S (vs ++ us) (ds ++ es)
  | _, _, _, _, .nil, s => s
  | _, _, _, _, .cons h r, s => .cons h (Reps.append r s)
theorem Reps.take : ∀ {vs : List V} {ds : List D} (n : Nat), Reps G S vs ds → Reps G S (vs.take n) (ds.take n)
  | _, _, 0, _ => .nil
  | _, _, _ + 1, .nil => .nil
  | _, _, n + 1, .cons h r => .cons h (Reps.take n r)
theorem Reps.drop : ∀ {vs : List V} {ds : List D} (n : Nat), Reps G S vs ds → Reps G S (vs.drop n) (ds.drop n)
  | _, _, 0, r => r
  | _, _, _ + 1, .nil => .nil
  | _, _, n + 1, .cons _ r => Reps.drop n r
theorem Reps.set {v : V} {d : D} (h : Rep G S v d) : ∀ {vs : List V} {ds : List D} (i : Nat), Reps G S vs ds → Reps G S (vs.set i v) (ds.set i d)
  | _, _, _, .nil => .nil
  | _, _, 0, .cons _ r => .cons h r
  | _, _, i + 1, .cons k r => .cons k (Reps.set h i r)
end
def Solid (H : Hp) (p : Addr) : Prop := ∃ o, H p = some o ∧ ∀ xs, o ≠ HO.tup xs
theorem Solid.ne {H : Hp} {p : Addr} (h : Solid H p) : H p ≠ none := fun z => by
  obtain ⟨o, e, _⟩ := h
  rw [z] at e
  cases e
theorem Solid.mono {H H' : Hp} {p : Addr} (h : Solid H p) (e : Ex H H') : Solid H' p := let ⟨o, a, b⟩ := h; ⟨o, e _ _ a, b⟩
structure Grow (S H S' H' : Hp) : Prop where
  s : Ex S S'
  h : Ex H H'
  sub : Ex S' H'
  sep : ∀ p, Solid H p → S p = none → S' p = none
theorem Grow.refl {S H : Hp} (e : Ex S H) : Grow S H S H := ⟨Same.refl _, Same.refl _, e, fun _ _ h => h⟩
theorem Grow.trans {S H S1 H1 S2 H2 : Hp} (a : Grow S H S1 H1) (b : Grow S1 H1 S2 H2) : Grow S H S2 H2 :=
  ⟨a.s.trans b.s, a.h.trans b.h, b.sub, fun p h1 h2 => b.sep p (h1.mono a.h) (a.sep p h1 h2)⟩
theorem ex_upd {H : Hp} {p : Addr} {o : HO} (h : H p = none) : Ex H (upd H p o) := fun a u e => by
  rw [upd_ne (ne_of_none e h)]
  exact e
theorem sub_none {S H : Hp} (e : Ex S H) {p : Addr} (h : H p = none) : S p = none := e.free h
theorem Grow.new {S H : Hp} (e : Ex S H) {p : Addr} {o : HO} (h : H p = none) : Grow S H (upd S p o) (upd H p o) := by
  have hs := sub_none e h
  refine ⟨ex_upd hs, ex_upd h, fun a u q => ?_, fun q h1 h2 => ?_⟩
  · by_cases z : a = p
    · subst z; rw [upd_same] at q ⊢; exact q
    · rw [upd_ne z] at q ⊢; exact e a u q
  · by_cases z : q = p
    · subst z; exact absurd h h1.ne
    · rw [upd_ne z]; exact h2
theorem Grow.newOwn {S H : Hp} (e : Ex S H) {p : Addr} {o : HO} (h : H p = none) : Grow S H S (upd H p o) :=
  ⟨Same.refl _, ex_upd h, fun a u q => by rw [upd_ne (ne_of_none (e a u q) h)]; exact e a u q, fun _ _ h => h⟩
structure RefK where
  a : Addr
  x : Option (Addr × List (Str × D))
inductive Sl where
  | unk | val (d : D) | own (d : D) | ref (a : RefK)
def ExAt (G : GG) (S : Hp) (k : RefK) : Prop := ∀ dd fs, k.x = some (dd, fs) → ∃ vs : List (Str × V), S dd = some (.xd vs) ∧ vs.map (·.1) = fs.map (·.1) ∧ Reps G S (vs.map (·.2)) (fs.map (·.2))
theorem ExAt.mono {G : GG} {S S' : Hp} {k : RefK} (h : ExAt G S k) (e : Ex S S') : ExAt G S' k := fun dd fs z => let ⟨vs, a, n, r⟩ := h dd fs z; ⟨vs, e _ _ a, n, r.mono e⟩
abbrev Gam := List Sl
def OwnAt (G : GG) (H0 S H : Hp) (p : Addr) : D → Prop
  | .lst ds => ∃ vs, H p = some (.lst vs) ∧ Reps G S vs ds
  | .dct kvs => ∃ ks, H p = some (.dT ks) ∧ ks.map (·.1) = kvs.map (·.1) ∧ Reps G S (ks.map (·.2)) (kvs.map (·.2))
  | .dks kvs => ∃ ks, H p = some (.dK ks) ∧ ks.map (·.1) = kvs.map (·.1) ∧ Reps G S (ks.map (·.2)) (kvs.map (·.2))
  | .obj c fs => ∃ dx vs, H p = some (.ins (G.ca c) dx vs) ∧ H dx = some (.own p) ∧ S dx = none ∧ H0 dx = none ∧ vs.map (·.1) = fs.map (·.1) ∧ Reps G S (vs.map (·.2)) (fs.map (·.2))
  | .slf a c fs => p = a ∧ ∃ dx vs, H p = some (.ins (G.ca c) dx vs) ∧ H dx = some (.own p) ∧ S dx = none ∧ H0 dx = none ∧ vs.map (·.1) = fs.map (·.1) ∧ Reps G S (vs.map (·.2)) (fs.map (·.2))
  | _ => False
structure Holds (G : GG) (H0 : Hp) (σ : St) (S H : Hp) (Γ : Gam) : Prop where
  ex : Ex S H
  e0 : Ex H0 H
  len : Γ.length ≤ σ.length
  val : ∀ (i : Nat) d, Γ[i]? = some (Sl.val d) → ∃ v, σ[i]? = some (some v) ∧ Rep G S v d
  own : ∀ (i : Nat) d, Γ[i]? = some (Sl.own d) → ∃ p, σ[i]? = some (some (.ref p)) ∧ S p = none ∧ H0 p = none ∧ OwnAt G H0 S H p d
  dis : ∀ (i j : Nat) d e p, Γ[i]? = some (Sl.own d) → Γ[j]? = some (Sl.own e) → σ[i]? = some (some (.ref p)) → σ[j]? = some (some (.ref p)) → i = j
  ref : ∀ (i : Nat) a, Γ[i]? = some (Sl.ref a) → σ[i]? = some (some (.ref a.a)) ∧ ExAt G S a
theorem set_ref {Γ : Gam} {i j : Nat} {s : Sl} {a : RefK} (h : (Γ.set i s)[j]? = some (Sl.ref a)) (n : ∀ a, s ≠ Sl.ref a) : i ≠ j ∧ Γ[j]? = some (Sl.ref a) := by
  by_cases z : i = j
  · subst z
    by_cases hl : i < Γ.length
    · rw [List.getElem?_set_self hl] at h; exact absurd (Option.some.inj h) (n a)
    · rw [List.getElem?_eq_none (by simpa using hl)] at h; cases h
  · rw [List.getElem?_set_ne z] at h
    exact ⟨z, h⟩
theorem OwnAt.there {G : GG} {H0 S H : Hp} {p : Addr} {d : D} (h : OwnAt G H0 S H p d) : H p ≠ none := by
  cases d with
  | lst ds => obtain ⟨_, e, _⟩ := h; rw [e]; exact fun z => by cases z
  | dct ds => obtain ⟨_, e, _⟩ := h; rw [e]; exact fun z => by cases z
  | dks ds => obtain ⟨_, e, _⟩ := h; rw [e]; exact fun z => by cases z
  | obj c fs => obtain ⟨_, _, e, _⟩ := h; rw [e]; exact fun z => by cases z
  | slf a c fs => obtain ⟨_, _, _, e, _⟩ := h; rw [e]; exact fun z => by cases z
  | _ => exact False.elim h
theorem OwnAt.solid {G : GG} {H0 S H : Hp} {p : Addr} {d : D} (h : OwnAt G H0 S H p d) : Solid H p := by
  cases d with
  | lst ds => obtain ⟨_, e, _⟩ := h; exact ⟨_, e, fun _ z => by cases z⟩
  | dct ds => obtain ⟨_, e, _⟩ := h; exact ⟨_, e, fun _ z => by cases z⟩
  | dks ds => obtain ⟨_, e, _⟩ := h; exact ⟨_, e, fun _ z => by cases z⟩
  | obj c fs => obtain ⟨_, _, e, _⟩ := h; exact ⟨_, e, fun _ z => by cases z⟩
  | slf a c fs => obtain ⟨_, _, _, e, _⟩ := h; exact ⟨_, e, fun _ z => by cases z⟩
  | _ => exact False.elim h
theorem OwnAt.grow {G : GG} {H0 S H S' H' : Hp} {p : Addr} {d : D} (g : Grow S H S' H') (h : OwnAt G H0 S H p d) : OwnAt G H0 S' H' p d := by
  cases d with
  | lst ds => obtain ⟨vs, e, r⟩ := h; exact ⟨vs, g.h _ _ e, r.mono g.s⟩
  | dct ds => obtain ⟨vs, e, n, r⟩ := h; exact ⟨vs, g.h _ _ e, n, r.mono g.s⟩
  | dks ds => obtain ⟨vs, e, n, r⟩ := h; exact ⟨vs, g.h _ _ e, n, r.mono g.s⟩
  | obj c fs => obtain ⟨dx, vs, e, e2, e3, e4, n, r⟩ := h; exact ⟨dx, vs, g.h _ _ e, g.h _ _ e2, g.sep _ ⟨_, e2, fun _ z => by cases z⟩ e3, e4, n, r.mono g.s⟩
  | slf a c fs => obtain ⟨hp, dx, vs, e, e2, e3, e4, n, r⟩ := h; exact ⟨hp, dx, vs, g.h _ _ e, g.h _ _ e2, g.sep _ ⟨_, e2, fun _ z => by cases z⟩ e3, e4, n, r.mono g.s⟩
  | _ => exact False.elim h
theorem Holds.grow {G : GG} {H0 : Hp} {σ : St} {S H S' H' : Hp} {Γ : Gam} (h : Holds G H0 σ S H Γ) (g : Grow S H S' H') : Holds G H0 σ S' H' Γ where
  ex := g.sub
  e0 := h.e0.trans g.h
  len := h.len
  val := fun i d e => let ⟨v, a, b⟩ := h.val i d e; ⟨v, a, b.mono g.s⟩
  own := fun i d e => let ⟨p, a, b, c, o⟩ := h.own i d e; ⟨p, a, g.sep p o.solid b, c, o.grow g⟩
  dis := h.dis
  ref := fun i a e => ⟨(h.ref i a e).1, (h.ref i a e).2.mono g.s⟩
inductive Weak : Gam → Gam → Prop
  | nil {Γ : Gam} : Weak Γ []
  | unk {s : Sl} {Γ Δ : Gam} : Weak Γ Δ → Weak (s :: Γ) (.unk :: Δ)
  | same {s : Sl} {Γ Δ : Gam} : Weak Γ Δ → Weak (s :: Γ) (s :: Δ)
theorem Weak.get : ∀ {Γ Δ : Gam}, Weak Γ Δ → ∀ {i : Nat} {s : Sl}, Δ[i]? = some s → s = .unk ∨ Γ[i]? = some s
  | _, _, .nil, i, s, e => by simp at e
  | _, _, .unk w, 0, s, e => by simp at e; exact .inl e.symm
  | _, _, .same w, 0, s, e => .inr (by simpa using e)
  | _, _, .unk w, i + 1, s, e => by simpa using Weak.get w (i := i) (by simpa using e)
  | _, _, .same w, i + 1, s, e => by simpa using Weak.get w (i := i) (by simpa using e)
theorem Weak.len {Γ Δ : Gam} (w : Weak Γ Δ) : Δ.length ≤ Γ.length := by
  induction w with
  | nil => exact Nat.zero_le _
  | unk _ ih => exact Nat.succ_le_succ ih
  | same _ ih => exact Nat.succ_le_succ ih
theorem Weak.refl : ∀ {Γ : Gam}, Weak Γ Γ
  | [] => .nil
  | _ :: _ => .same Weak.refl
theorem Weak.trans {Γ Δ Θ : Gam} (a : Weak Γ Δ) (b : Weak Δ Θ) : Weak Γ Θ := by
  induction b generalizing Γ with
  | nil => exact .nil
  | unk w ih => cases a with
    | unk a => exact .unk (ih a)
    | same a => exact .unk (ih a)
  | same w ih => cases a with
    | unk a => exact .unk (ih a)
    | same a => exact .same (ih a)
theorem Holds.weak {G : GG} {H0 : Hp} {σ : St} {S H : Hp} {Γ Δ : Gam} (h : Holds G H0 σ S H Γ) (w : Weak Γ Δ) : Holds G H0 σ S H Δ where
  ex := h.ex
  e0 := h.e0
  len := Nat.le_trans w.len h.len
  val := fun i d e => (w.get e).elim (fun z => by cases z) fun e => h.val i d e
  own := fun i d e => (w.get e).elim (fun z => by cases z) fun e => h.own i d e
  dis := fun i j d e p a b => (w.get a).elim (fun z => by cases z) fun a => (w.get b).elim (fun z => by cases z) fun b => h.dis i j d e p a b
  ref := fun i a e => (w.get e).elim (fun z => by cases z) fun e => h.ref i a e
theorem Holds.set {G : GG} {H0 : Hp} {σ : St} {S H : Hp} {Γ : Gam} (h : Holds G H0 σ S H Γ) {i : Nat} {v : V} {d : D} (r : Rep G S v d) : Holds G H0 (σ.set i (some v)) S H (Γ.set i (Sl.val d)) := by
  refine ⟨h.ex, h.e0, by simpa using h.len, fun j e q => ?_, fun j e q => ?_, fun j k a b p q1 q2 q3 q4 => ?_, fun j a q => by obtain ⟨n, q⟩ := set_ref q (fun _ z => by cases z); rw [List.getElem?_set_ne n]; exact h.ref j a q⟩
  · by_cases z : i = j
    · subst z
      have hl : i < Γ.length := by
        by_cases hl : i < Γ.length
        · exact hl
        · rw [List.getElem?_eq_none (by simpa using hl)] at q; cases q
      rw [List.getElem?_set_self hl] at q
      cases q
      exact ⟨v, List.getElem?_set_self (Nat.lt_of_lt_of_le hl h.len), r⟩
    · rw [List.getElem?_set_ne z] at q ⊢
      exact h.val j e q
  · by_cases z : i = j
    · subst z
      by_cases hl : i < Γ.length
      · rw [List.getElem?_set_self hl] at q; cases q
      · rw [List.getElem?_eq_none (by simpa using hl)] at q; cases q
    · rw [List.getElem?_set_ne z] at q ⊢
      exact h.own j e q
  · have ne : ∀ {j : Nat} {a : D}, (Γ.set i (Sl.val d))[j]? = some (Sl.own a) → i ≠ j := fun {j a} q z => by
      subst z
      by_cases hl : i < Γ.length
      · rw [List.getElem?_set_self hl] at q; cases q
      · rw [List.getElem?_eq_none (by simpa using hl)] at q; cases q
    have n1 := ne q1
    have n2 := ne q2
    rw [List.getElem?_set_ne n1] at q1 q3
    rw [List.getElem?_set_ne n2] at q2 q4
    exact h.dis j k a b p q1 q2 q3 q4
end Mir
namespace Mir
open PySem PySem.Spec L2
structure Fm where
  G : GG
  W : WX
  N : List Str
  V : List Bool
  L : List Bool
  kd : List (Str × NameKind)
  Xs : Cx → Prop
  k : Nat
  cm : Bool
  top : Bool
  fr : Bool
  ow : Option Addr
  hX : ∀ X, Xs X → X.prog = G.P ∧ X.w = G.w ∧ X.K = G.K ∧ X.mg = G.mg ∧ X.base = G.base ∧ X.N = N
  nd : N.Nodup
  hkd : ∀ X, Xs X → X.env.scope.names = kd
  hki : ∀ X, Xs X → X.env.scope.kind = .function
  vis : ∀ X, Xs X → ∀ (i : Nat) x, V[i]? = some true → N[i]? = some x → Vis X.env.scope x
  loc : ∀ X, Xs X → ∀ (i : Nat) x, L[i]? = some true → N[i]? = some x → Loc X.env.scope x ∧ (X.fn x = true ∨ X.env.scope.names.lookup x = some .local)
  hc : cm = true → ∀ X, Xs X → X.calm = true
  hr : cm = true → ∀ X, Xs X → Room k X.A
  hu : ∀ X, Xs X → X.A.units + 64 < cLine
  tk : ∀ X, Xs X → Takes X W
  po : ∀ X, Xs X → PassesOwn (model X.prog X.w) X.A X.env X.xe
  ht : top = true → ∀ X, Xs X → X.stack = X.env :: X.outer ∧ X.env.frame = some X.env.locals ∧ X.ex = []
theorem Fm.hK (F : Fm) (X : Cx) (h : F.Xs X) : X.K = F.G.K := (F.hX X h).2.2.1
theorem Fm.hN (F : Fm) (X : Cx) (h : F.Xs X) : X.N = F.N := (F.hX X h).2.2.2.2.2
theorem Fm.gl (F : Fm) (X : Cx) (h : F.Xs X) {x : Str} (k : F.kd.lookup x = some .globalImplicit) : Gl X x := by
  show X.env.scope.names.lookup x = _
  rw [F.hkd X h]
  exact k
def RepX (G : GG) (S : Hp) (cls : Value) (dd : Option Addr) (e : Exc) : Prop :=
  cls = G.xc e.c ∧ ((e.fs = [] ∧ dd = none) ∨ e.fs ≠ [] ∧ ∃ d vs, dd = some d ∧ S d = some (.xd vs) ∧ vs.map (·.1) = e.fs.map (·.1) ∧ Reps G S (vs.map (·.2)) (e.fs.map (·.2)))
def Po {α : Type} (G : GG) (E : XK) (S H : Hp) (K : α → Hp → Hp → Prop) : M α → Prop
  | .stk => False
  | .exn e => ∀ cls dd S' H', Grow S H S' H' → RepX G S' cls dd e → E cls dd H'
  | .ok a => ∀ S' H', Grow S H S' H' → K a S' H'
section
variable {G : GG} {E : XK} {α β : Type} {S H S1 H1 : Hp} {K K' : α → Hp → Hp → Prop}
theorem Po.step {m : M α} (p : Po G E S H K m) (g : Grow S H S1 H1) : Po G E S1 H1 K m := by
  cases m with
  | stk => exact p
  | exn e => exact fun cls dd S' H' g' => p cls dd S' H' (g.trans g')
  | ok a => exact fun S' H' g' => p S' H' (g.trans g')
theorem Po.bind {K : β → Hp → Hp → Prop} {m : M α} {k : α → M β} (p : Po G E S H K (m.bind k)) : Po G E S H (fun a S' H' => Po G E S' H' K (k a)) m := by
  cases m with
  | stk => exact p
  | exn e => exact p
  | ok a => exact fun S' H' g => Po.step (m := k a) p g
theorem Po.imp {m : M α} (p : Po G E S H K m) (h : ∀ a S' H', Grow S H S' H' → K a S' H' → K' a S' H') : Po G E S H K' m := by
  cases m with
  | stk => exact p
  | exn e => exact p
  | ok a => exact fun S' H' g => h a S' H' g (p S' H' g)
theorem Po.gate {c : Prop} [Decidable c] {m : M α} (p : Po G E S H K (if c then m else .stk)) : c ∧ Po G E S H K m := by
  by_cases h : c
  · rw [if_pos h] at p; exact ⟨h, p⟩
  · rw [if_neg h] at p; exact False.elim p
theorem Po.ok {a : α} (e : Ex S H) (p : Po G E S H K (.ok a)) : K a S H := p S H (Grow.refl e)
end
abbrev KE (F : Fm) (Q : VK) : D → Hp → Hp → Prop := fun d S H => ∀ v, Rep F.G S v d → Q v H
abbrev KA (F : Fm) (Q : List V → Hp → Prop) : List D → Hp → Hp → Prop := fun ds S H => ∀ vs, Reps F.G S vs ds → Q vs H
abbrev KT (Q : Bool → Hp → Prop) : Bool → Hp → Hp → Prop := fun b _ H => Q b H
def EvM (F : Fm) (te : TE) (Γ : Gam) (m : M D) : Prop := ∀ H0 σ S H Q, Holds F.G H0 σ S H Γ → Po F.G (WE F.W σ) S H (KE F Q) m → te σ H Q
def EvA (F : Fm) (ta : TA) (Γ : Gam) (m : M (List D)) : Prop := ∀ H0 σ S H Q, Holds F.G H0 σ S H Γ → Po F.G (WE F.W σ) S H (KA F Q) m → ta σ H Q
def EvT (F : Fm) (tt : TT) (Γ : Gam) (m : M Bool) : Prop := ∀ H0 σ S H Q, Holds F.G H0 σ S H Γ → Po F.G (WE F.W σ) S H (KT Q) m → tt σ H Q
def EM (F : Fm) (e : Expr) (Γ : Gam) (m : M D) : Prop := ∃ t, (∀ X, F.Xs X → PE X e t) ∧ EvM F t Γ m
def AM (F : Fm) (es : List Expr) (Γ : Gam) (m : M (List D)) : Prop := ∃ t, (∀ X, F.Xs X → PA X es t) ∧ EvA F t Γ m
def TM (F : Fm) (e : Expr) (Γ : Gam) (m : M Bool) : Prop := ∃ t, (∀ X, F.Xs X → PT X e t) ∧ EvT F t Γ m
def WM (F : Fm) (e : Expr) (Γ : Gam) (m : M Bool) : Prop := ∃ t, (∀ X, F.Xs X → PW X e t) ∧ EvT F t Γ m
def b1 {α β : Type} (f : α → M β) (a : M α) : M β := a.bind f
def b2 {α β γ : Type} (f : α → β → M γ) (a : M α) (b : M β) : M γ := a.bind fun x => b.bind fun y => f x y
def RM (F : Fm) (r : R2) (f : D → D → M D) : Prop := ∀ x y vx vy σ S H Q, Ex S H → Rep F.G S vx x → Rep F.G S vy y → Po F.G (WE F.W σ) S H (KE F Q) (f x y) → r vx vy H Q
section
variable {F : Fm} {Γ : Gam} {a b c e : Expr} {es : List Expr} {ma mb mc m : M D} {pos : Pos}
theorem em_var (i : Nat) {x : Str} {d : D} (hn : F.N[i]? = some x) (hv : F.V[i]? = some true) (hΓ : Γ[i]? = some (Sl.val d))
    (hd : (x == ("__debug__" : Str)) = false := by decide) (hcd : (x == ("__classdict__" : Str)) = false := by decide) : EM F (.Name x pos) Γ (.ok d) := by
  refine ⟨tVar i, fun X hX => pe_var (by rw [F.hN X hX]; exact hn) (F.vis X hX i x hv hn) hd hcd, fun H0 σ S H Q hh p => ?_⟩
  obtain ⟨v, hv, r⟩ := hh.val i d hΓ
  exact ⟨v, hv, p.ok hh.ex v r⟩
theorem em_int {i : Int} {j} : EM F (.Constant (.int i) j pos) Γ (.ok (.int i)) := ⟨_, fun X _ => pe_int, fun H0 σ S H Q hh p => p.ok hh.ex _ (.int i)⟩
theorem em_bl {i : Bool} {j} : EM F (.Constant (.bool i) j pos) Γ (.ok (.bl i)) := ⟨_, fun X _ => pe_bl, fun H0 σ S H Q hh p => p.ok hh.ex _ (.bl i)⟩
theorem em_str {i : Str} {j} : EM F (.Constant (.str i) j pos) Γ (.ok (.str i)) := ⟨_, fun X _ => pe_str, fun H0 σ S H Q hh p => p.ok hh.ex _ (.str i)⟩
theorem em_non {j} : EM F (.Constant .none j pos) Γ (.ok .non) := ⟨_, fun X _ => pe_non, fun H0 σ S H Q hh p => p.ok hh.ex _ .non⟩
theorem ev2 {ta tb : TE} {R : V → V → Hp → Prop} {H0 : Hp} {σ : L2.St} {S H : Hp} {K : D → Hp → Hp → Prop} {f : D → D → M D} (ha : EvM F ta Γ ma) (hb : EvM F tb Γ mb) (hh : Holds F.G H0 σ S H Γ) (p : Po F.G (WE F.W σ) S H K (b2 f ma mb))
    (h : ∀ x y vx vy S2 H2, Grow S H S2 H2 → Rep F.G S2 vx x → Rep F.G S2 vy y → Po F.G (WE F.W σ) S2 H2 K (f x y) → R vx vy H2) : ta σ H fun x H1 => tb σ H1 fun y H2 => R x y H2 := by
  refine ha H0 σ S H _ hh (Po.bind p |>.imp fun x S1 H1 g1 q1 vx rx => ?_)
  refine hb H0 σ S1 H1 _ (hh.grow g1) (Po.bind q1 |>.imp fun y S2 H2 g2 q2 vy ry => ?_)
  exact h x y vx vy S2 H2 (g1.trans g2) (rx.mono g2.s) ry q2
theorem em_op {op : Operator} {r : R2} {f : D → D → M D} (ho : ∀ X, F.Xs X → OpR X (binaryOp op) r) (hf : RM F r f) (ha : EM F a Γ ma) (hb : EM F b Γ mb) : EM F (.BinOp a op b pos) Γ (b2 f ma mb) := by
  obtain ⟨ta, pa, ea⟩ := ha
  obtain ⟨tb, pb, eb⟩ := hb
  exact ⟨tOp r ta tb, fun X hX => pe_op (ho X hX) (pa X hX) (pb X hX), fun H0 σ S H Q hh p => ev2 ea eb hh p fun x y vx vy S2 H2 g rx ry q => hf x y vx vy σ S2 H2 Q g.sub rx ry q⟩
theorem em_cmp {op : CmpOp} {r : R2} {f : D → D → M D} (ho : ∀ X, F.Xs X → OpR X (compareOp op) r) (hf : RM F r f) (ha : EM F a Γ ma) (hb : EM F b Γ mb) (hm : behindInMarks op b = false) : EM F (.Compare a [op] [b] pos) Γ (b2 f ma mb) := by
  obtain ⟨ta, pa, ea⟩ := ha
  obtain ⟨tb, pb, eb⟩ := hb
  exact ⟨tOp r ta tb, fun X hX => pe_cmpR (ho X hX) (pa X hX) (pb X hX) hm, fun H0 σ S H Q hh p => ev2 ea eb hh p fun x y vx vy S2 H2 g rx ry q => hf x y vx vy σ S2 H2 Q g.sub rx ry q⟩
def isB : D → M Bool
  | .bl b => .ok b
  | _ => .stk
theorem tm_cmp {op : CmpOp} {r : R2} {f : D → D → M D} (ho : ∀ X, F.Xs X → OpR X (compareOp op) r) (hf : RM F r f) (ha : EM F a Γ ma) (hb : EM F b Γ mb) (hm : behindInMarks op b = false) : TM F (.Compare a [op] [b] pos) Γ (b1 isB (b2 f ma mb)) := by
  obtain ⟨ta, pa, ea⟩ := ha
  obtain ⟨tb, pb, eb⟩ := hb
  refine ⟨tTest (tOp r ta tb), fun X hX => pt_cmpR (ho X hX) (pa X hX) (pb X hX) hm, fun H0 σ S H Q hh p => ?_⟩
  refine ev2 (K := KE F fun x H' => ∃ k, x = .bl k ∧ Q k H') ea eb hh (Po.bind p |>.imp fun d S' H' g q v r => ?_) fun x y vx vy S2 H2 g rx ry q => hf x y vx vy σ S2 H2 _ g.sub rx ry q
  cases r with
  | bl k => exact ⟨k, rfl, Po.ok g.sub q⟩
  | _ => exact False.elim q
def pyAdd : D → D → M D
  | .int a, .int b => .ok (.int (a + b))
  | .str a, .str b => if a.length + b.length ≤ sizeLine then .ok (.str (a ++ b)) else .stk
  | .lst a, .lst b => if a.length + b.length ≤ sizeLine then .ok (.lst (a ++ b)) else .stk
  | _, _ => .stk
def pySub : D → D → M D
  | .int a, .int b => .ok (.int (a - b))
  | _, _ => .stk
def pyMul : D → D → M D
  | .int a, .int b => if (-(2 ^ 64) < a ∧ a < 2 ^ 64) ∨ (-(2 ^ 64) < b ∧ b < 2 ^ 64) then .ok (.int (a * b)) else .stk
  | _, _ => .stk
def pyMod : D → D → M D
  | .int a, .int b => if 0 < b then .ok (.int (a % b)) else .stk
  | _, _ => .stk
def pyDiv : D → D → M D
  | .int a, .int b => if 0 < b ∧ b < 1073741824 then .ok (.int (a / b)) else .stk
  | _, _ => .stk
def pyPow : D → D → M D
  | .int a, .int b => if 0 ≤ b ∧ b ≤ 1000000 ∧ a.natAbs < 2 ^ 64 then .ok (.int (a ^ b.toNat)) else .stk
  | _, _ => .stk
def pyNeg : D → M D
  | .int a => .ok (.int (-a))
  | _ => .stk
def rAddA (K : PySem.W.Frag) : R2 := fun x y H Q => (∃ i j, x = .int i ∧ y = .int j ∧ Q (.int (i + j)) H) ∨ (∃ i j, x = .str i ∧ y = .str j ∧ i.length + j.length ≤ sizeLine ∧ Q (.str (i ++ j)) H) ∨ rCat x y H Q
theorem rm_add : RM F (rAddA F.G.K) pyAdd := by
  intro x y vx vy σ S H Q ex rx ry p
  cases x with
  | int i => cases y with
    | int j => cases rx; cases ry; exact .inl ⟨i, j, rfl, rfl, p.ok ex _ (.int _)⟩
    | _ => exact False.elim p
  | str i => cases y with
    | str j =>
      cases rx; cases ry
      obtain ⟨hl, p⟩ := Po.gate (c := i.length + j.length ≤ sizeLine) (m := M.ok (D.str (i ++ j))) p
      exact .inr (.inl ⟨i, j, rfl, rfl, hl, p.ok ex _ (.str _)⟩)
    | _ => exact False.elim p
  | lst xs => cases y with
    | lst ys =>
      cases rx with
      | @lst p1 vs _ h1 r1 => cases ry with
        | @lst p2 us _ h2 r2 =>
          obtain ⟨hl, p⟩ := Po.gate (c := xs.length + ys.length ≤ sizeLine) (m := M.ok (D.lst (xs ++ ys))) p
          refine .inr (.inr ⟨_, _, _, _, rfl, rfl, ex _ _ h1, ex _ _ h2, by rw [r1.length, r2.length]; exact hl, fun q hq => ?_⟩)
          have g := Grow.new (o := HO.lst (vs ++ us)) ex hq
          exact p _ _ g _ (.lst upd_same ((r1.mono g.s).append (r2.mono g.s)))
    | _ => exact False.elim p
  | _ => exact False.elim p
theorem em_add (ha : EM F a Γ ma) (hb : EM F b Γ mb) : EM F (.BinOp a .Add b pos) Γ (b2 pyAdd ma mb) :=
  em_op (r := rAddA F.G.K) (fun X _ => op_add.or (op_add_str.or op_cat)) rm_add ha hb
theorem rm_I {C : Int → Int → Prop} {g : Int → Int → Int} {f : D → D → M D} (h : ∀ (x y : D) (σ : L2.St) S H Q, Ex S H → Po F.G (WE F.W σ) S H (KE F Q) (f x y) → ∃ i j, x = .int i ∧ y = .int j ∧ C i j ∧ KE F Q (.int (g i j)) S H) : RM F (rI C fun i j => .int (g i j)) f := by
  intro x y vx vy σ S H Q ex rx ry p
  obtain ⟨i, j, rfl, rfl, hc, q⟩ := h x y σ S H Q ex p
  cases rx; cases ry
  exact ⟨i, j, rfl, rfl, hc, q _ (.int _)⟩
theorem em_sub (ha : EM F a Γ ma) (hb : EM F b Γ mb) : EM F (.BinOp a .Sub b pos) Γ (b2 pySub ma mb) := by
  refine em_op (r := rI0 fun i j => .int (i - j)) (fun X _ => op_sub) (fun x y vx vy σ S H Q ex rx ry p => ?_) ha hb
  cases x <;> first | exact False.elim p | (cases y <;> first | exact False.elim p | (cases rx; cases ry; exact ⟨_, _, rfl, rfl, p.ok ex _ (.int _)⟩))
theorem em_mul (ha : EM F a Γ ma) (hb : EM F b Γ mb) : EM F (.BinOp a .Mult b pos) Γ (b2 pyMul ma mb) := by
  refine em_op (r := rI CMul fun i j => .int (i * j)) (fun X _ => op_mul) (rm_I fun x y σ S H Q ex p => ?_) ha hb
  cases x <;> first | exact False.elim p | (cases y <;> first | exact False.elim p | (obtain ⟨hc, p⟩ := Po.gate (m := M.ok (D.int _)) p; exact ⟨_, _, rfl, rfl, hc, p.ok ex⟩))
theorem em_mod (ha : EM F a Γ ma) (hb : EM F b Γ mb) : EM F (.BinOp a .Mod b pos) Γ (b2 pyMod ma mb) := by
  refine em_op (r := rI (fun _ j => 0 < j) fun i j => .int (i % j)) (fun X _ => op_mod) (rm_I fun x y σ S H Q ex p => ?_) ha hb
  cases x <;> first | exact False.elim p | (cases y <;> first | exact False.elim p | (obtain ⟨hc, p⟩ := Po.gate (m := M.ok (D.int _)) p; exact ⟨_, _, rfl, rfl, hc, p.ok ex⟩))
theorem em_div (ha : EM F a Γ ma) (hb : EM F b Γ mb) : EM F (.BinOp a .FloorDiv b pos) Γ (b2 pyDiv ma mb) := by
  refine em_op (r := rI CDiv fun i j => .int (i / j)) (fun X _ => op_fdiv) (rm_I fun x y σ S H Q ex p => ?_) ha hb
  cases x <;> first | exact False.elim p | (cases y <;> first | exact False.elim p | (obtain ⟨hc, p⟩ := Po.gate (m := M.ok (D.int _)) p; exact ⟨_, _, rfl, rfl, hc, p.ok ex⟩))
theorem em_pow (ha : EM F a Γ ma) (hb : EM F b Γ mb) : EM F (.BinOp a .Pow b pos) Γ (b2 pyPow ma mb) := by
  refine em_op (r := rI CPow fun i j => .int (i ^ j.toNat)) (fun X _ => op_pow) (rm_I fun x y σ S H Q ex p => ?_) ha hb
  cases x <;> first | exact False.elim p | (cases y <;> first | exact False.elim p | (obtain ⟨hc, p⟩ := Po.gate (m := M.ok (D.int _)) p; exact ⟨_, _, rfl, rfl, hc, p.ok ex⟩))
theorem em_neg (ha : EM F a Γ ma) : EM F (.UnaryOp .USub a pos) Γ (b1 pyNeg ma) := by
  obtain ⟨ta, pa, ea⟩ := ha
  refine ⟨tUn (rU fun i => .int (-i)) ta, fun X hX => pe_un un_neg (pa X hX), fun H0 σ S H Q hh p => ?_⟩
  refine ea H0 σ S H _ hh (Po.bind p |>.imp fun x S1 H1 g1 q1 vx rx => ?_)
  cases rx <;> first | exact False.elim q1 | exact ⟨_, rfl, q1.ok g1.sub _ (.int _)⟩
def pyLt : D → D → M D
  | .int a, .int b => .ok (.bl (decide (a < b)))
  | .str a, .str b => .ok (.bl (decide (a.cps.toList < b.cps.toList)))
  | _, _ => .stk
def pyLe : D → D → M D
  | .int a, .int b => .ok (.bl (decide (a ≤ b)))
  | _, _ => .stk
def pyGt : D → D → M D
  | .int a, .int b => .ok (.bl (decide (b < a)))
  | _, _ => .stk
def pyGe : D → D → M D
  | .int a, .int b => .ok (.bl (decide (b ≤ a)))
  | _, _ => .stk
def rLtA : R2 := fun x y H Q => (∃ i j, x = .int i ∧ y = .int j ∧ Q (.bl (decide (i < j))) H) ∨ (∃ i j, x = .str i ∧ y = .str j ∧ Q (.bl (decide (i.cps.toList < j.cps.toList))) H)
theorem rm_lt : RM F rLtA pyLt := by
  intro x y vx vy σ S H Q ex rx ry p
  cases x <;> first
    | exact False.elim p
    | (cases y <;> first | exact False.elim p | (cases rx; cases ry; first | exact .inl ⟨_, _, rfl, rfl, p.ok ex _ (.bl _)⟩ | exact .inr ⟨_, _, rfl, rfl, p.ok ex _ (.bl _)⟩))
theorem op_ltA {X : Cx} : OpR X (compareOp .Lt) rLtA := op_lt.or op_lt_str
theorem rm_B {g : Int → Int → Bool} {f : D → D → M D} (h : ∀ (x y : D) (σ : L2.St) S H Q, Ex S H → Po F.G (WE F.W σ) S H (KE F Q) (f x y) → ∃ i j, x = .int i ∧ y = .int j ∧ KE F Q (.bl (g i j)) S H) : RM F (rI0 fun i j => .bl (g i j)) f := by
  intro x y vx vy σ S H Q ex rx ry p
  obtain ⟨i, j, rfl, rfl, q⟩ := h x y σ S H Q ex p
  cases rx; cases ry
  exact ⟨i, j, rfl, rfl, q _ (.bl _)⟩
theorem rm_gt : RM F (rI0 fun i j => .bl (decide (j < i))) pyGt := rm_B fun x y σ S H Q ex p => by
  cases x <;> first | exact False.elim p | (cases y <;> first | exact False.elim p | exact ⟨_, _, rfl, rfl, p.ok ex⟩)
theorem rm_ge : RM F (rI0 fun i j => .bl (decide (j ≤ i))) pyGe := rm_B fun x y σ S H Q ex p => by
  cases x <;> first | exact False.elim p | (cases y <;> first | exact False.elim p | exact ⟨_, _, rfl, rfl, p.ok ex⟩)
mutual
def toPy : D → Option PyData
  | .non => some .none
  | .bl b => some (.bool b)
  | .int i => some (.int i)
  | .str x => some (.str x)
  | .tup xs => (toPys xs).map .tuple
  | .ktp xs => (toPys xs).map .tuple
  | .lst xs => (toPys xs).map .list
  | _ => none
def toPys : List D → Option (List PyData)
  | [] => some []
  | d :: ds => match toPy d, toPys ds with
    | some p, some ps => some (p :: ps)
    | _, _ => none
end
def scalD : D → D → Bool
  | .non, .non => true | .non, .int _ => true | .int _, .non => true | .non, .bl _ => true | .bl _, .non => true | .non, .str _ => true | .str _, .non => true
  | .int _, .int _ => true | .bl _, .bl _ => true | .str _, .str _ => true
  | .int _, .str _ => true | .str _, .int _ => true | .bl _, .str _ => true | .str _, .bl _ => true
  | _, _ => false
def eqS : D → D → Bool
  | .non, .non => true
  | .int a, .int b => decide (a = b)
  | .bl a, .bl b => decide (a = b)
  | .str a, .str b => decide (a = b)
  | _, _ => false
def eqD (x y : D) : M Bool := if scalD x y then .ok (eqS x y) else match toPy x, toPy y with
  | some p, some q => if SeqAt.shaped p = true ∧ SeqAt.shaped q = true then .ok (PyData.eqv p q) else .stk
  | _, _ => .stk
def pyEq (x y : D) : M D := b1 (fun b => .ok (.bl b)) (eqD x y)
def pyNe (x y : D) : M D := b1 (fun b => .ok (.bl (!b))) (eqD x y)
mutual
theorem rep_dp {G : GG} {S : Hp} : ∀ {d : D} {v : V} {p : PyData}, Rep G S v d → toPy d = some p → Dp G.K S v p
  | .non, _, _, h, e => by cases h; cases e; exact .non
  | .bl b, _, _, h, e => by cases h; cases e; exact .bl _
  | .int b, _, _, h, e => by cases h; cases e; exact .int _
  | .str b, _, _, h, e => by cases h; cases e; exact .str _
  | .tup xs, _, p, h, e => by
    cases h with
    | tup h r =>
      unfold toPy at e
      cases q : toPys xs with
      | none => rw [q] at e; cases e
      | some ps => rw [q] at e; cases e; exact .tup (SqT.of h) (reps_dp r q)
  | .lst xs, _, p, h, e => by
    cases h with
    | lst h r =>
      unfold toPy at e
      cases q : toPys xs with
      | none => rw [q] at e; cases e
      | some ps => rw [q] at e; cases e; exact .lst (SqL.of h) (reps_dp r q)
  | .adr _, _, _, _, e => by cases e
  | .ktp xs, _, p, h, e => by
    cases h with
    | kt hq r =>
      unfold toPy at e
      cases q : toPys xs with
      | none => rw [q] at e; cases e
      | some ps => rw [q] at e; cases e; exact .tup (.inr hq) (reps_dp r.reps q)
  | .scr _, _, _, _, e => by cases e
  | .dct _, _, _, _, e => by cases e
  | .dks _, _, _, _, e => by cases e
  | .obj _ _, _, _, _, e => by cases e
  | .slf _ _ _, _, _, _, e => by cases e
theorem reps_dp {G : GG} {S : Hp} : ∀ {ds : List D} {vs : List V} {ps : List PyData}, Reps G S vs ds → toPys ds = some ps → DpAll G.K S vs ps
  | [], _, _, r, e => by cases r; cases e; exact .nil
  | d :: ds, _, _, r, e => by
    cases r with
    | cons h r =>
      unfold toPys at e
      cases q : toPy d with
      | none => rw [q] at e; cases e
      | some p => cases q2 : toPys ds with
        | none => rw [q, q2] at e; cases e
        | some ps => rw [q, q2] at e; cases e; exact .cons (rep_dp h q) (reps_dp r q2)
end
def rEqA (K : PySem.W.Frag) : R2 := fun x y H Q => rEq x y H Q ∨ rEqD K x y H Q
def rNeA (K : PySem.W.Frag) : R2 := fun x y H Q => rNe x y H Q ∨ rNeD K x y H Q
theorem scal_of {G : GG} {S : Hp} {x y : D} {vx vy : V} (rx : Rep G S vx x) (ry : Rep G S vy y) (h : scalD x y = true) : scal vx vy = true ∧ decide (vx = vy) = eqS x y := by
  cases rx <;> first | (exact absurd h Bool.false_ne_true) | (cases ry <;> first | (exact absurd h Bool.false_ne_true) | exact ⟨rfl, by simp [eqS]⟩)
theorem rm_eq : RM F (rEqA F.G.K) pyEq := by
  intro x y vx vy σ S H Q ex rx ry p
  unfold pyEq eqD at p
  split at p
  · rename_i h
    obtain ⟨h1, h2⟩ := scal_of rx ry h
    refine .inl ⟨h1, ?_⟩
    rw [h2]
    exact (show Po F.G (WE F.W σ) S H (KE F Q) (.ok (.bl (eqS x y))) from p).ok ex _ (.bl _)
  · split at p
    · rename_i q1 q2
      split at p
      · rename_i hs
        exact .inr ⟨_, _, rep_dp (rx.mono ex) q1, rep_dp (ry.mono ex) q2, hs.1, hs.2, (show Po F.G (WE F.W σ) S H (KE F Q) (.ok (.bl _)) from p).ok ex _ (.bl _)⟩
      · exact False.elim p
    · exact False.elim p
theorem rm_ne : RM F (rNeA F.G.K) pyNe := by
  intro x y vx vy σ S H Q ex rx ry p
  unfold pyNe eqD at p
  split at p
  · rename_i h
    obtain ⟨h1, h2⟩ := scal_of rx ry h
    refine .inl ⟨h1, ?_⟩
    rw [h2]
    exact (show Po F.G (WE F.W σ) S H (KE F Q) (.ok (.bl (!eqS x y))) from p).ok ex _ (.bl _)
  · split at p
    · rename_i q1 q2
      split at p
      · rename_i hs
        exact .inr ⟨_, _, rep_dp (rx.mono ex) q1, rep_dp (ry.mono ex) q2, hs.1, hs.2, (show Po F.G (WE F.W σ) S H (KE F Q) (.ok (.bl _)) from p).ok ex _ (.bl _)⟩
      · exact False.elim p
    · exact False.elim p
end
end Mir
namespace Mir
open PySem PySem.Spec L2
theorem PE_or {X : Cx} {e : Expr} {t u : TE} (h : PE X e t) (k : PE X e u) : PE X e (fun σ H Q => t σ H Q ∨ u σ H Q) :=
  ⟨fun pins s σ H Q I q => q.elim (h.run pins s σ H Q I) (k.run pins s σ H Q I)⟩
def pyTruth : D → M Bool
  | .non => .ok false
  | .bl b => .ok b
  | .int i => .ok (i != 0)
  | .str y => if y.length ≤ sizeLine then .ok ((y.length : Int) != 0) else .stk
  | .tup xs => .ok (!xs.isEmpty)
  | .lst xs => .ok (!xs.isEmpty)
  | _ => .stk
theorem reps_empty {G : GG} {S : Hp} {vs : List V} {ds : List D} (r : Reps G S vs ds) : vs.isEmpty = ds.isEmpty := by cases r <;> rfl
theorem truV {G : GG} {E : XK} {S H : Hp} {v : V} {d : D} {Q : Bool → Hp → Prop} (ex : Ex S H) (r : Rep G S v d) (p : Po G E S H (KT Q) (pyTruth d)) : ∃ k, TruV G.K v H k ∧ Q k H := by
  cases r with
  | non => exact ⟨_, rfl, p.ok ex⟩
  | bl b => exact ⟨_, rfl, p.ok ex⟩
  | int i => exact ⟨_, rfl, p.ok ex⟩
  | str y =>
    obtain ⟨hc, p⟩ := Po.gate (m := M.ok ((y.length : Int) != 0)) p
    exact ⟨_, ⟨hc, rfl⟩, p.ok ex⟩
  | tup h r => exact ⟨_, .inr (.inl ⟨_, SqT.of (ex _ _ h), rfl⟩), by rw [reps_empty r]; exact p.ok ex⟩
  | lst h r => exact ⟨_, .inl ⟨_, SqL.of (ex _ _ h), rfl⟩, by rw [reps_empty r]; exact p.ok ex⟩
  | _ => exact False.elim p
section
variable {F : Fm} {Γ : Gam} {a b c e : Expr} {es rest : List Expr} {ma mb mc m : M D} {mt mu : M Bool} {ms : List (M D)} {pos : Pos}
theorem em_or {e : Expr} {m : M D} {t u : TE} (h : ∀ X, F.Xs X → PE X e t) (k : ∀ X, F.Xs X → PE X e u) (hv : EvM F (fun σ H Q => t σ H Q ∨ u σ H Q) Γ m) : EM F e Γ m :=
  ⟨_, fun X hX => PE_or (h X hX) (k X hX), hv⟩
theorem tm_val (he : EM F e Γ m) (hp : ∀ X, F.Xs X → ∀ whole, isTrue e X.env whole = (do let v ← whole; standAt e.pos; holding [v] (truthy v))) : TM F e Γ (b1 pyTruth m) := by
  obtain ⟨t, pt, et⟩ := he
  refine ⟨fun σ H Q => t σ H fun x H' => ∃ k, TruV F.G.K x H' k ∧ Q k H', fun X hX => ?_, fun H0 σ S H Q hh p => ?_⟩
  · have h := pt_truth (pt X hX) (hp X hX)
    rw [F.hK X hX] at h
    exact h
  · exact et H0 σ S H _ hh (Po.bind p |>.imp fun d S' H' g q v r => truV g.sub r q)
def andM (a b : M Bool) : M Bool := a.bind fun c => if c = true then b else .ok false
def orM (a b : M Bool) : M Bool := a.bind fun c => if c = true then .ok true else b
def notM (a : M Bool) : M Bool := a.bind fun c => .ok (!c)
theorem wm_and1 (ha : TM F a Γ mt) : WM F (.BoolOp .And [a] pos) Γ mt := by
  obtain ⟨t, p, e⟩ := ha
  exact ⟨t, fun X hX => pw_and1 (p X hX), e⟩
theorem wm_or1 (ha : TM F a Γ mt) : WM F (.BoolOp .Or [a] pos) Γ mt := by
  obtain ⟨t, p, e⟩ := ha
  exact ⟨t, fun X hX => pw_or1 (p X hX), e⟩
theorem wm_and (ha : TM F a Γ mt) (hb : WM F (.BoolOp .And (b :: rest) pos) Γ mu) : WM F (.BoolOp .And (a :: b :: rest) pos) Γ (andM mt mu) := by
  obtain ⟨t, p, e⟩ := ha
  obtain ⟨u, q, f⟩ := hb
  refine ⟨tAnd t u, fun X hX => pw_and (p X hX) (q X hX), fun H0 σ S H Q hh po => ?_⟩
  refine e H0 σ S H _ hh (Po.bind po |>.imp fun c S' H' g k => ?_)
  cases c with
  | true => exact iteT (f H0 σ S' H' Q (hh.grow g) k)
  | false => exact iteF (Po.ok (a := false) g.sub k)
theorem wm_or (ha : TM F a Γ mt) (hb : WM F (.BoolOp .Or (b :: rest) pos) Γ mu) : WM F (.BoolOp .Or (a :: b :: rest) pos) Γ (orM mt mu) := by
  obtain ⟨t, p, e⟩ := ha
  obtain ⟨u, q, f⟩ := hb
  refine ⟨tOr t u, fun X hX => pw_or (p X hX) (q X hX), fun H0 σ S H Q hh po => ?_⟩
  refine e H0 σ S H _ hh (Po.bind po |>.imp fun c S' H' g k => ?_)
  cases c with
  | true => exact iteT (Po.ok (a := true) g.sub k)
  | false => exact iteF (f H0 σ S' H' Q (hh.grow g) k)
theorem tm_w (h : WM F e Γ mt) : TM F e Γ mt := by
  obtain ⟨t, p, e⟩ := h
  exact ⟨t, fun X hX => (p X hX).pt, e⟩
theorem tm_not (ha : TM F a Γ mt) : TM F (.UnaryOp .Not a pos) Γ (notM mt) := by
  obtain ⟨t, p, e⟩ := ha
  refine ⟨tNot t, fun X hX => pt_not (p X hX), fun H0 σ S H Q hh po => ?_⟩
  exact e H0 σ S H _ hh (Po.bind po |>.imp fun c S' H' g k => Po.ok (a := !c) g.sub k)
def andV (a b : M D) : M D := a.bind fun d => (isB d).bind fun c => if c = true then b else .ok (.bl false)
def notV (a : M D) : M D := a.bind fun d => (isB d).bind fun c => .ok (.bl !c)
theorem isB_of {G : GG} {E : XK} {S H : Hp} {v : V} {d : D} {α : Type} {K : α → Hp → Hp → Prop} {k : Bool → M α} (ex : Ex S H) (r : Rep G S v d) (p : Po G E S H K ((isB d).bind k)) : ∃ c, v = .bl c ∧ Po G E S H K (k c) := by
  cases r with
  | bl b => exact ⟨b, rfl, p⟩
  | _ => exact False.elim p
theorem em_one {op} (ha : EM F a Γ m) : EM F (.BoolOp op [a] pos) Γ m := by
  obtain ⟨t, p, e⟩ := ha
  exact ⟨t, fun X hX => pe_one (p X hX), e⟩
theorem em_and (ha : EM F a Γ ma) (hb : EM F (.BoolOp .And (b :: rest) pos) Γ mb) : EM F (.BoolOp .And (a :: b :: rest) pos) Γ (andV ma mb) := by
  obtain ⟨t, p, e⟩ := ha
  obtain ⟨u, q, f⟩ := hb
  refine ⟨tAndV t u, fun X hX => pe_and (p X hX) (q X hX), fun H0 σ S H Q hh po => ?_⟩
  refine e H0 σ S H _ hh (Po.bind po |>.imp fun d S' H' g k v r => ?_)
  obtain ⟨c, rfl, k⟩ := isB_of g.sub r k
  refine ⟨c, rfl, ?_⟩
  cases c with
  | true => exact iteT (f H0 σ S' H' Q (hh.grow g) k)
  | false => exact iteF (Po.ok (a := D.bl false) g.sub k _ (.bl _))
theorem em_not (ha : EM F a Γ ma) : EM F (.UnaryOp .Not a pos) Γ (notV ma) := by
  obtain ⟨t, p, e⟩ := ha
  refine ⟨tNotV t, fun X hX => pe_not (p X hX), fun H0 σ S H Q hh po => ?_⟩
  refine e H0 σ S H _ hh (Po.bind po |>.imp fun d S' H' g k v r => ?_)
  obtain ⟨c, rfl, k⟩ := isB_of g.sub r k
  exact ⟨c, rfl, Po.ok (a := D.bl !c) g.sub k _ (.bl _)⟩
def ifM {α : Type} (c : M Bool) (a b : M α) : M α := c.bind fun c => if c = true then a else b
theorem em_if (hc : TM F c Γ mt) (ha : EM F a Γ ma) (hb : EM F b Γ mb) : EM F (.IfExp c a b pos) Γ (ifM mt ma mb) := by
  obtain ⟨t, p, e⟩ := hc
  obtain ⟨u, q, f⟩ := ha
  obtain ⟨w, r, g⟩ := hb
  refine ⟨tIf t u w, fun X hX => pe_ifExp (p X hX) (q X hX) (r X hX), fun H0 σ S H Q hh po => ?_⟩
  refine e H0 σ S H _ hh (Po.bind po |>.imp fun c S' H' gr k => ?_)
  cases c with
  | true => exact iteT (f H0 σ S' H' Q (hh.grow gr) k)
  | false => exact iteF (g H0 σ S' H' Q (hh.grow gr) k)
def chM (f g : D → D → M D) (a b c : M D) : M D := a.bind fun x => b.bind fun y => (f x y).bind fun z => (isB z).bind fun k => if k = true then c.bind fun w => g y w else .ok (.bl false)
theorem ev_chain {r r' : R2} {f g : D → D → M D} {ta tb tc : TE} (hf : RM F r f) (hg : RM F r' g) (ea : EvM F ta Γ ma) (eb : EvM F tb Γ mb) (ec : EvM F tc Γ mc) : EvM F (tChain r r' ta tb tc) Γ (chM f g ma mb mc) := by
  intro H0 σ S H Q hh p
  refine ea H0 σ S H _ hh (Po.bind p |>.imp fun x S1 H1 g1 q1 vx rx => ?_)
  refine eb H0 σ S1 H1 _ (hh.grow g1) (Po.bind q1 |>.imp fun y S2 H2 g2 q2 vy ry => ?_)
  refine hf x y vx vy σ S2 H2 _ g2.sub (rx.mono g2.s) ry (Po.bind q2 |>.imp fun z S3 H3 g3 q3 vz rz => ?_)
  obtain ⟨k, rfl, q3⟩ := isB_of g3.sub rz q3
  refine ⟨k, rfl, ?_⟩
  cases k with
  | true =>
    have q3 : Po F.G (WE F.W σ) S3 H3 (KE F Q) (mc.bind fun w => g y w) := q3
    exact iteT (ec H0 σ S3 H3 _ (hh.grow (g1.trans (g2.trans g3))) (Po.bind q3 |>.imp fun w S4 H4 g4 q4 vw rw' => hg y w vy vw σ S4 H4 Q g4.sub ((ry.mono g3.s).mono g4.s) rw' q4))
  | false => exact iteF (Po.ok (a := D.bl false) g3.sub q3 _ (.bl _))
theorem em_chain {op op' : CmpOp} {r r' : R2} {f g : D → D → M D} (ho : ∀ X, F.Xs X → OpR X (compareOp op) r) (hf : RM F r f) (ho' : ∀ X, F.Xs X → OpR X (compareOp op') r') (hg : RM F r' g) (ha : EM F a Γ ma) (hb : EM F b Γ mb) (hc : EM F c Γ mc)
    (hm : lastMarks [op, op'] [b, c] = false := by with_unfolding_all rfl) : EM F (.Compare a [op, op'] [b, c] pos) Γ (chM f g ma mb mc) := by
  obtain ⟨ta, pa, ea⟩ := ha
  obtain ⟨tb, pb, eb⟩ := hb
  obtain ⟨tc, pc, ec⟩ := hc
  exact ⟨tChain r r' ta tb tc, fun X hX => pe_chain (ho X hX) (ho' X hX) (pa X hX) (pb X hX) (pc X hX) hm, ev_chain hf hg ea eb ec⟩
def mlist {α : Type} : List (M α) → M (List α)
  | [] => .ok []
  | m :: ms => m.bind fun d => (mlist ms).bind fun ds => .ok (d :: ds)
theorem am_nil : AM F [] Γ (mlist []) := ⟨_, fun X _ => pa_nil, fun H0 σ S H Q hh p => Po.ok hh.ex p [] .nil⟩
theorem am_cons (ha : EM F e Γ m) (hr : AM F es Γ (mlist ms)) (hs : ∀ X, F.Xs X → starEach (e :: es) X.env = (false, eval e X.env) :: starEach es X.env := by intros; rfl) : AM F (e :: es) Γ (mlist (m :: ms)) := by
  obtain ⟨t, p, f⟩ := ha
  obtain ⟨u, q, g⟩ := hr
  refine ⟨tCons t u, fun X hX => pa_cons (p X hX) (q X hX) (hs X hX), fun H0 σ S H Q hh po => ?_⟩
  refine f H0 σ S H _ hh (Po.bind po |>.imp fun d S1 H1 g1 k v r => ?_)
  refine g H0 σ S1 H1 _ (hh.grow g1) (Po.bind k |>.imp fun ds S2 H2 g2 k2 vs rs => ?_)
  exact Po.ok g2.sub k2 (v :: vs) (.cons (r.mono g2.s) rs)
def mkTup (ds : List D) : M D := if ds.length ≤ sizeLine then .ok (.tup ds) else .stk
def mkLst (ds : List D) : M D := if ds.length ≤ sizeLine then .ok (.lst ds) else .stk
theorem ev_newT {G : GG} {E : XK} {S H : Hp} {F : Fm} {Q : VK} {vs : List V} {ds : List D} (ex : Ex S H) (r : Reps F.G S vs ds) (p : Po F.G E S H (KE F Q) (.ok (.tup ds))) : ∀ q, H q = none → Q (.ref q) (upd H q (.tup vs)) := fun q hq => by
  have g := Grow.new (o := HO.tup vs) ex hq
  exact p _ _ g _ (.tup upd_same (r.mono g.s))
theorem ev_newL {G : GG} {E : XK} {S H : Hp} {F : Fm} {Q : VK} {vs : List V} {ds : List D} (ex : Ex S H) (r : Reps F.G S vs ds) (p : Po F.G E S H (KE F Q) (.ok (.lst ds))) : ∀ q, H q = none → Q (.ref q) (upd H q (.lst vs)) := fun q hq => by
  have g := Grow.new (o := HO.lst vs) ex hq
  exact p _ _ g _ (.lst upd_same (r.mono g.s))
theorem em_tup {x1} {ml : M (List D)} (h : AM F es Γ ml) : EM F (.Tuple es x1 pos) Γ (b1 mkTup ml) := by
  obtain ⟨t, p, f⟩ := h
  refine ⟨tTup t, fun X hX => pe_tup (p X hX), fun H0 σ S H Q hh po => ?_⟩
  refine f H0 σ S H _ hh (Po.bind po |>.imp fun ds S1 H1 g1 k vs r => ?_)
  obtain ⟨hl, k⟩ := Po.gate (m := M.ok (D.tup ds)) k
  exact ⟨by rw [r.length]; exact hl, ev_newT (G := F.G) g1.sub r k⟩
theorem em_lst {ml : M (List D)} (h : AM F es Γ ml) : EM F (.List es pos) Γ (b1 mkLst ml) := by
  obtain ⟨t, p, f⟩ := h
  refine ⟨tLst t, fun X hX => pe_lst (p X hX), fun H0 σ S H Q hh po => ?_⟩
  refine f H0 σ S H _ hh (Po.bind po |>.imp fun ds S1 H1 g1 k vs r => ?_)
  obtain ⟨hl, k⟩ := Po.gate (m := M.ok (D.lst ds)) k
  exact ⟨by rw [r.length]; exact hl, ev_newL (G := F.G) g1.sub r k⟩
def spM (G : GG) (m : List D → M D) : Sp := fun vs H Q E => ∃ S ds, Ex S H ∧ Reps G S vs ds ∧ Po G E S H (fun d S' H' => ∀ v, Rep G S' v d → Q v H') (m ds)
def Kn (G : GG) (k : Nat) (x : Str) (m : List D → M D) : Prop := ∃ f fd ps j, j ≤ k ∧ FnOk G.P G.w G.K G.mg G.base (L2.CX G.P G.w) j f fd ps (spM G m) ∧ G.mg x = some (.ref f) ∧ PySem.W.keepIn G.K (.ref f) = true ∧ Binds G.K fd ps []
theorem Kn.mono {G : GG} {j k : Nat} {x : Str} {m : List D → M D} (h : Kn G j x m) (l : j ≤ k) : Kn G k x m := by
  obtain ⟨f, fd, ps, i, hi, r⟩ := h
  exact ⟨f, fd, ps, i, Nat.le_trans hi l, r⟩
theorem em_call {x : Str} {p : Pos} {m : List D → M D} {ml : M (List D)} (kn : Kn F.G F.k x m) (hcm : F.cm = true) (hg : F.kd.lookup x = some .globalImplicit) (ha : AM F (e :: es) Γ ml) (hdb : (x == ("__debug__" : Str)) = false := by decide)
    (he : ∀ X, F.Xs X → starEach (e :: es) X.env = (false, eval e X.env) :: starEach es X.env := by intros; rfl) (hpl : ∀ X, F.Xs X → (backTo pos (starEach es X.env)).any (·.1) = false := by intros; rfl) : EM F (.Call (.Name x p) (e :: es) [] pos) Γ (b1 m ml) := by
  obtain ⟨t, q, g⟩ := ha
  refine ⟨tCallS (spM F.G m) (WE F.W) t, fun X hX => ?_, fun H0 σ S H Q hh po => ?_⟩
  · obtain ⟨f, fd, ps, j, hj, ok, hm, hk, hb⟩ := kn
    obtain ⟨h1, h2, h3, h4, h5, _⟩ := F.hX X hX
    rw [← h1, ← h2, ← h3, ← h4, ← h5] at ok
    rw [← h4] at hm
    rw [← h3] at hk hb
    exact pe_callS ok ((F.hr hcm X hX).mono hj) (F.gl X hX hg) hm hk hb (fun σ => passAt (F.tk X hX) σ) (q X hX) hdb (he X hX) (hpl X hX)
  · exact g H0 σ S H _ hh (Po.bind po |>.imp fun ds S1 H1 g1 k vs r => ⟨S1, ds, g1.sub, r, k⟩)
def CM (F : Fm) (r : List V → Hp → VK → Prop) (f : List D → M D) : Prop := ∀ (ds : List D) (vs : List V) (E : XK) S H Q, Ex S H → Reps F.G S vs ds → Po F.G E S H (KE F Q) (f ds) → r vs H Q
theorem em_callB {x : Str} {p : Pos} {id : String} {r : List V → Hp → VK → Prop} {f : List D → M D} {ml : M (List D)} (hc : ∀ X, F.Xs X → CallR X (.builtin id) r) (hf : CM F r f) (hg : F.kd.lookup x = some .globalImplicit) (hm : F.G.mg x = none) (hv : bootBuiltins x = some (.builtin id)) (ha : AM F (e :: es) Γ ml)
    (hn : x ≠ "__name__" := by decide) (hdb : (x == ("__debug__" : Str)) = false := by decide)
    (he : ∀ X, F.Xs X → starEach (e :: es) X.env = (false, eval e X.env) :: starEach es X.env := by intros; rfl) (hpl : ∀ X, F.Xs X → (backTo pos (starEach es X.env)).any (·.1) = false := by intros; rfl) : EM F (.Call (.Name x p) (e :: es) [] pos) Γ (b1 f ml) := by
  obtain ⟨t, q, g⟩ := ha
  exact ⟨tCB r t, fun X hX => pe_callB (hc X hX) (F.gl X hX hg) (by rw [(F.hX X hX).2.2.2.1]; exact hm) hv (q X hX) hn hdb (he X hX) (hpl X hX), fun H0 σ S H Q hh po => g H0 σ S H _ hh (Po.bind po |>.imp fun ds S1 H1 g1 k vs r => hf ds vs _ S1 H1 Q g1.sub r k)⟩
theorem em_callTy {x : Str} {p : Pos} {T : String} {r : List V → Hp → VK → Prop} {f : List D → M D} {ml : M (List D)} (hc : ∀ X, F.Xs X → CallR X (.type T) r) (hf : CM F r f) (hg : F.kd.lookup x = some .globalImplicit) (hm : F.G.mg x = none) (hv : bootBuiltins x = some (.type T)) (ha : AM F (e :: es) Γ ml)
    (hn : x ≠ "__name__" := by decide) (hdb : (x == ("__debug__" : Str)) = false := by decide)
    (he : ∀ X, F.Xs X → starEach (e :: es) X.env = (false, eval e X.env) :: starEach es X.env := by intros; rfl) (hpl : ∀ X, F.Xs X → (backTo pos (starEach es X.env)).any (·.1) = false := by intros; rfl) : EM F (.Call (.Name x p) (e :: es) [] pos) Γ (b1 f ml) := by
  obtain ⟨t, q, g⟩ := ha
  exact ⟨tCB r t, fun X hX => pe_callTy (hc X hX) (F.gl X hX hg) (by rw [(F.hX X hX).2.2.2.1]; exact hm) hv (q X hX) hn hdb (he X hX) (hpl X hX), fun H0 σ S H Q hh po => g H0 σ S H _ hh (Po.bind po |>.imp fun ds S1 H1 g1 k vs r => hf ds vs _ S1 H1 Q g1.sub r k)⟩
def pyLen : List D → M D
  | [.str y] => if y.length ≤ sizeLine then .ok (.int y.length) else .stk
  | [.lst xs] => .ok (.int xs.length)
  | [.tup xs] => .ok (.int xs.length)
  | [.ktp xs] => .ok (.int xs.length)
  | [.scr xs] => .ok (.int xs.length)
  | _ => .stk
theorem reps1 {G : GG} {S : Hp} {vs : List V} {d : D} (r : Reps G S vs [d]) : ∃ v, vs = [v] ∧ Rep G S v d := by
  cases r with
  | cons h r => cases r; exact ⟨_, rfl, h⟩
theorem reps2 {G : GG} {S : Hp} {vs : List V} {d e : D} (r : Reps G S vs [d, e]) : ∃ v w, vs = [v, w] ∧ Rep G S v d ∧ Rep G S w e := by
  cases r with
  | cons h r => cases r with
    | cons k r => cases r; exact ⟨_, _, rfl, h, k⟩
theorem cm_len : CM F (fun xs H Q => ∃ x n, xs = [x] ∧ LenV F.G.K x H n ∧ Q (.int n) H) pyLen := by
  intro ds vs E S H Q ex r p
  match ds, r, p with
  | [.str y], r, p =>
    obtain ⟨v, rfl, h⟩ := reps1 r
    obtain ⟨hl, p⟩ := Po.gate (m := M.ok (D.int y.length)) p
    cases h
    exact ⟨_, _, rfl, ⟨hl, rfl⟩, p.ok ex _ (.int _)⟩
  | [.lst xs], r, p =>
    obtain ⟨v, rfl, h⟩ := reps1 r
    cases h with
    | lst h r => exact ⟨_, _, rfl, .inl ⟨_, SqL.of (ex _ _ h), rfl⟩, by rw [r.length]; exact p.ok ex _ (.int _)⟩
  | [.tup xs], r, p =>
    obtain ⟨v, rfl, h⟩ := reps1 r
    cases h with
    | tup h r => exact ⟨_, _, rfl, .inr ⟨_, SqT.of (ex _ _ h), rfl⟩, by rw [r.length]; exact p.ok ex _ (.int _)⟩
  | [.ktp xs], r, p =>
    obtain ⟨v, rfl, h⟩ := reps1 r
    cases h with
    | kt hq r => exact ⟨_, _, rfl, .inr ⟨_, .inr hq, rfl⟩, by rw [(r.reps (S := H)).length]; exact p.ok ex _ (.int _)⟩
  | [.scr xs], r, p =>
    obtain ⟨v, rfl, h⟩ := reps1 r
    cases h with
    | scr h => exact ⟨_, _, rfl, .inl ⟨_, ex_l ex h, rfl⟩, by rw [List.length_map]; exact p.ok ex _ (.int _)⟩
theorem em_len {p : Pos} {ml : M (List D)} (hg : F.kd.lookup ("len" : Str) = some NameKind.globalImplicit) (hm : F.G.mg "len" = none) (ha : AM F (e :: es) Γ ml)
    (he : ∀ X, F.Xs X → starEach (e :: es) X.env = (false, eval e X.env) :: starEach es X.env := by intros; rfl) (hpl : ∀ X, F.Xs X → (backTo pos (starEach es X.env)).any (·.1) = false := by intros; rfl) : EM F (.Call (.Name "len" p) (e :: es) [] pos) Γ (b1 pyLen ml) :=
  em_callB (r := fun xs H Q => ∃ x n, xs = [x] ∧ LenV F.G.K x H n ∧ Q (.int n) H) (fun X hX => by have h := call_len (X := X); rw [F.hK X hX] at h; exact h) cm_len hg hm PySem.boot_len ha (by decide) (by decide) he hpl
def pyInt : List D → M D
  | [.int i] => .ok (.int i)
  | [.bl b] => .ok (.int (if b then 1 else 0))
  | _ => .stk
theorem cm_int : CM F (fun xs H Q => (∃ i, xs = [.int i] ∧ Q (.int i) H) ∨ ∃ k, xs = [.bl k] ∧ Q (.int (if k then 1 else 0)) H) pyInt := by
  intro ds vs E S H Q ex r p
  match ds, r, p with
  | [.int y], r, p =>
    obtain ⟨v, rfl, h⟩ := reps1 r
    cases h
    exact .inl ⟨_, rfl, p.ok ex _ (.int _)⟩
  | [.bl y], r, p =>
    obtain ⟨v, rfl, h⟩ := reps1 r
    cases h
    exact .inr ⟨_, rfl, p.ok ex _ (.int _)⟩
theorem em_int_of {p : Pos} {ml : M (List D)} (hg : F.kd.lookup ("int" : Str) = some NameKind.globalImplicit) (hm : F.G.mg "int" = none) (ha : AM F (e :: es) Γ ml)
    (he : ∀ X, F.Xs X → starEach (e :: es) X.env = (false, eval e X.env) :: starEach es X.env := by intros; rfl) (hpl : ∀ X, F.Xs X → (backTo pos (starEach es X.env)).any (·.1) = false := by intros; rfl) : EM F (.Call (.Name "int" p) (e :: es) [] pos) Γ (b1 pyInt ml) :=
  em_callTy (r := fun xs H Q => (∃ i, xs = [.int i] ∧ Q (.int i) H) ∨ ∃ k, xs = [.bl k] ∧ Q (.int (if k then 1 else 0)) H) (fun X hX => call_int1) cm_int hg hm (by decide +kernel) ha (by decide) (by decide) he hpl
def valD {κ : Type} [DecidableEq κ] (kvs : List (κ × D)) (k : κ) : Option D := (kvs.find? fun kv => decide (kv.1 = k)).map (·.2)
def keyOf : D → Option Key
  | .int i => some (.inl i)
  | .str x => some (.inr x)
  | _ => none
def keysOf : List D → Option (List Key)
  | [] => some []
  | d :: ds => match keyOf d, keysOf ds with
    | some k, some ks => some (k :: ks)
    | _, _ => none
def ofOpt {α : Type} : Option α → M α
  | some a => .ok a
  | none => .stk
def pyIx : D → D → M D
  | .str z, .int i => if z.length ≤ sizeLine then (ofOpt (atI z.cps.toList i)).bind fun c => .ok (.str ⟨#[c]⟩) else .stk
  | .lst xs, .int i => ofOpt (atI xs i)
  | .tup xs, .int i => ofOpt (atI xs i)
  | .ktp xs, .int i => ofOpt (atI xs i)
  | .dct kvs, .tup ks => (ofOpt (keysOf ks)).bind fun k => ofOpt (valD kvs k)
  | .dks kvs, .int i => ofOpt (valD kvs (.inl i))
  | .dks kvs, .str i => ofOpt (valD kvs (.inr i))
  | _, _ => .stk
theorem Po.opt {G : GG} {E : XK} {α β : Type} {S H : Hp} {K : β → Hp → Hp → Prop} {o : Option α} {k : α → M β} (p : Po G E S H K ((ofOpt o).bind k)) : ∃ a, o = some a ∧ Po G E S H K (k a) := by
  cases o with
  | none => exact False.elim p
  | some a => exact ⟨a, rfl, p⟩
theorem Po.opt0 {G : GG} {E : XK} {α : Type} {S H : Hp} {K : α → Hp → Hp → Prop} {o : Option α} (p : Po G E S H K (ofOpt o)) : ∃ a, o = some a ∧ Po G E S H K (.ok a) := by
  cases o with
  | none => exact False.elim p
  | some a => exact ⟨a, rfl, p⟩
theorem reps_at {G : GG} {S : Hp} {vs : List V} {ds : List D} {i : Int} {d : D} (r : Reps G S vs ds) (h : atI ds i = some d) : ∃ v, atI vs i = some v ∧ Rep G S v d := by
  unfold atI at h ⊢
  rw [r.length]
  cases q : ixN ds.length i with
  | none => rw [q] at h; cases h
  | some j =>
    rw [q] at h
    exact r.get h
theorem reps_key {G : GG} {S : Hp} : ∀ {ds : List D} {vs : List V} {k : List Key}, Reps G S vs ds → keysOf ds = some k → vs = k.map kV
  | [], _, _, .nil, e => by cases e; rfl
  | d :: ds, _, _, .cons h r, e => by
    unfold keysOf at e
    split at e
    · rename_i q1 q2
      cases e
      have h2 := reps_key r q2
      cases h <;> first | (cases q1; rw [h2]; rfl) | cases q1
    · cases e
theorem valD_find {G : GG} {S : Hp} {κ : Type} [DecidableEq κ] : ∀ {ks : List (κ × V)} {kvs : List (κ × D)} {k : κ} {d : D}, ks.map (·.1) = kvs.map (·.1) → Reps G S (ks.map (·.2)) (kvs.map (·.2)) → valD kvs k = some d → ∃ v, valV ks k = some v ∧ Rep G S v d
  | [], [], k, d, _, _, e => by cases e
  | (a, v) :: ks, (b, x) :: kvs, k, d, n, .cons h r, e => by
    obtain ⟨n1, n2⟩ := List.cons.inj n
    have n1 : a = b := n1
    subst n1
    unfold valD at e
    unfold valV
    rw [List.find?_cons] at e ⊢
    by_cases q : a = k
    · simp only [q, decide_true] at e ⊢
      cases e
      exact ⟨_, rfl, h⟩
    · simp only [q, decide_false] at e ⊢
      exact valD_find n2 r e
theorem ev2x {ta tb : TE} {x : D} {R : V → V → Hp → Prop} {H0 : Hp} {σ : L2.St} {S H : Hp} {K : D → Hp → Hp → Prop} {f : D → D → M D} (ha : EvM F ta Γ (.ok x)) (hb : EvM F tb Γ mb) (hh : Holds F.G H0 σ S H Γ) (p : Po F.G (WE F.W σ) S H K (b2 f (.ok x) mb))
    (h : ∀ y vx vy S2 H2, Grow S H S2 H2 → Rep F.G S2 vx x → Rep F.G S2 vy y → Po F.G (WE F.W σ) S2 H2 K (f x y) → R vx vy H2) : ta σ H fun x H1 => tb σ H1 fun y H2 => R x y H2 := by
  refine ha H0 σ S H _ hh (fun S1 H1 g1 vx rx => ?_)
  have p : Po F.G (WE F.W σ) S H K (mb.bind fun y => f x y) := p
  refine hb H0 σ S1 H1 _ (hh.grow g1) (Po.bind (p.step g1) |>.imp fun y S2 H2 g2 q2 vy ry => ?_)
  exact h y vx vy S2 H2 (g1.trans g2) (rx.mono g2.s) ry q2
theorem ev2e {ta tb : TE} {e : Exc} {R : V → V → Hp → Prop} {H0 : Hp} {σ : L2.St} {S H : Hp} {K : D → Hp → Hp → Prop} {f : D → D → M D} (ha : EvM F ta Γ (.exn e)) (hh : Holds F.G H0 σ S H Γ) (p : Po F.G (WE F.W σ) S H K (b2 f (.exn e) mb)) :
    ta σ H fun x H1 => tb σ H1 fun y H2 => R x y H2 := ha H0 σ S H _ hh p
theorem em_ix (ha : EM F a Γ ma) (hb : EM F b Γ mb) (hs : PlainIx b) : EM F (.Subscript a b pos) Γ (b2 pyIx ma mb) := by
  obtain ⟨ta, pa, ea⟩ := ha
  obtain ⟨tb, pb, eb⟩ := hb
  refine em_or (t := tOp (rIx F.G.K) ta tb) (u := tDGet ta tb) (fun X hX => by have h := pe_ix (pos := pos) ix_seq (pa X hX) (pb X hX) hs; rw [F.hK X hX] at h; exact h) (fun X hX => pe_dget (by have := F.hu X hX; omega) (pa X hX) (pb X hX) hs) ?_
  intro H0 σ S H Q hh p
  cases ma with
  | stk => exact False.elim p
  | exn e => exact .inl (ev2e ea hh p)
  | ok x =>
    cases x with
    | str z =>
      refine .inl (ev2x (R := fun x y H2 => rIx F.G.K x y H2 Q) ea eb hh p fun y vx vy S2 H2 g rx ry q => ?_)
      cases y with
      | int i =>
        obtain ⟨hl, q⟩ := Po.gate (m := (ofOpt (atI z.cps.toList i)).bind fun c => M.ok (D.str ⟨#[c]⟩)) q
        obtain ⟨c, hc, q⟩ := Po.opt q
        cases rx; cases ry
        exact .inr (.inr ⟨z, i, c, rfl, rfl, hl, hc, q.ok g.sub _ (.str _)⟩)
      | _ => exact False.elim q
    | lst xs =>
      refine .inl (ev2x (R := fun x y H2 => rIx F.G.K x y H2 Q) ea eb hh p fun y vx vy S2 H2 g rx ry q => ?_)
      cases y with
      | int i =>
        obtain ⟨c, hc, q⟩ := Po.opt0 (o := atI xs i) q
        cases rx with
        | lst h r =>
          cases ry
          obtain ⟨v, hv, rv⟩ := reps_at r hc
          exact .inl ⟨_, _, i, v, rfl, rfl, SqL.of (g.sub _ _ h), hv, q.ok g.sub _ rv⟩
      | _ => exact False.elim q
    | tup xs =>
      refine .inl (ev2x (R := fun x y H2 => rIx F.G.K x y H2 Q) ea eb hh p fun y vx vy S2 H2 g rx ry q => ?_)
      cases y with
      | int i =>
        obtain ⟨c, hc, q⟩ := Po.opt0 (o := atI xs i) q
        cases rx with
        | tup h r =>
          cases ry
          obtain ⟨v, hv, rv⟩ := reps_at r hc
          exact .inr (.inl ⟨_, _, i, v, rfl, rfl, SqT.of (g.sub _ _ h), hv, q.ok g.sub _ rv⟩)
      | _ => exact False.elim q
    | ktp xs =>
      refine .inl (ev2x (R := fun x y H2 => rIx F.G.K x y H2 Q) ea eb hh p fun y vx vy S2 H2 g rx ry q => ?_)
      cases y with
      | int i =>
        obtain ⟨c, hc, q⟩ := Po.opt0 (o := atI xs i) q
        cases rx with
        | kt hq r =>
          cases ry
          obtain ⟨v, hv, rv⟩ := reps_at (r.reps (S := S2)) hc
          exact .inr (.inl ⟨_, _, i, v, rfl, rfl, .inr hq, hv, q.ok g.sub _ rv⟩)
      | _ => exact False.elim q
    | dct kvs =>
      refine .inr (ev2x (R := fun x y H2 => ∃ a v, x = .ref a ∧ DGet H2 a y (some v) ∧ Q v H2) ea eb hh p fun y vx vy S2 H2 g rx ry q => ?_)
      cases y with
      | tup ks =>
        obtain ⟨k, hk, q⟩ := Po.opt (o := keysOf ks) q
        obtain ⟨d, hd, q⟩ := Po.opt0 (o := valD kvs k) q
        cases rx with
        | dct h n r =>
          cases ry with
          | tup h2 r2 =>
            obtain ⟨v, hv, rv⟩ := valD_find n r hd
            rw [reps_key r2 hk] at h2
            exact ⟨_, v, rfl, .inr ⟨_, k, _, ex_rd g.sub h, rfl, g.sub _ _ h2, hv.symm⟩, q.ok g.sub _ rv⟩
      | _ => exact False.elim q
    | dks kvs =>
      refine .inr (ev2x (R := fun x y H2 => ∃ a v, x = .ref a ∧ DGet H2 a y (some v) ∧ Q v H2) ea eb hh p fun y vx vy S2 H2 g rx ry q => ?_)
      cases y with
      | int i =>
        obtain ⟨d, hd, q⟩ := Po.opt0 (o := valD kvs (Sum.inl i)) q
        cases rx with
        | dks h n r =>
          cases ry
          obtain ⟨v, hv, rv⟩ := valD_find n r hd
          exact ⟨_, v, rfl, .inl ⟨_, Sum.inl i, ex_rd g.sub h, rfl, hv.symm⟩, q.ok g.sub _ rv⟩
      | str i =>
        obtain ⟨d, hd, q⟩ := Po.opt0 (o := valD kvs (Sum.inr i)) q
        cases rx with
        | dks h n r =>
          cases ry
          obtain ⟨v, hv, rv⟩ := valD_find n r hd
          exact ⟨_, v, rfl, .inl ⟨_, Sum.inr i, ex_rd g.sub h, rfl, hv.symm⟩, q.ok g.sub _ rv⟩
      | _ => exact False.elim q
    | _ =>
      refine .inl (ev2x (R := fun x y H2 => rIx F.G.K x y H2 Q) ea eb hh p fun y vx vy S2 H2 g rx ry q => ?_)
      cases y <;> exact False.elim q
def cutD (xs : List D) (lo hi : Option Int) : List D := (xs.drop (HT.sIx xs.length 0 lo)).take (HT.sIx xs.length xs.length hi - HT.sIx xs.length 0 lo)
theorem reps_cut {G : GG} {S : Hp} {vs : List V} {ds : List D} (r : Reps G S vs ds) (lo hi : Option Int) : Reps G S (cutV vs lo hi) (cutD ds lo hi) := by
  unfold cutV cutD
  rw [r.length]
  exact (r.drop _).take _
def pySl (d : D) (lo hi : Option Int) : M D := match d with
  | .str z => if z.length ≤ sizeLine then .ok (.str (cutS z lo hi)) else .stk
  | .lst xs => .ok (.lst (cutD xs lo hi))
  | .tup xs => if ¬ (HT.sIx xs.length 0 lo = 0 ∧ HT.sIx xs.length xs.length hi = xs.length) then .ok (.tup (cutD xs lo hi)) else .stk
  | _ => .stk
def EvO (F : Fm) (t : TO) (Γ : Gam) (m : M (Option Int)) : Prop := ∀ H0 σ S H Q, Holds F.G H0 σ S H Γ → Po F.G (WE F.W σ) S H (fun o _ H' => Q o H') m → t σ H Q
def OM (F : Fm) (e : Option Expr) (Γ : Gam) (m : M (Option Int)) : Prop := ∃ t, (∀ X, F.Xs X → PO X e t) ∧ EvO F t Γ m
def someI : D → M (Option Int)
  | .int i => .ok (some i)
  | _ => .stk
theorem om_none : OM F none Γ (.ok none) := ⟨_, fun X _ => po_none, fun H0 σ S H Q hh p => p.ok hh.ex⟩
theorem om_some (ha : EM F a Γ ma) : OM F (some a) Γ (b1 someI ma) := by
  obtain ⟨t, p, f⟩ := ha
  refine ⟨tPart t, fun X hX => po_some (p X hX), fun H0 σ S H Q hh po => ?_⟩
  refine f H0 σ S H _ hh (Po.bind po |>.imp fun d S1 H1 g k v r => ?_)
  cases r with
  | int i => exact ⟨i, rfl, Po.ok (a := some i) g.sub k⟩
  | _ => exact False.elim k
def slM (m : M D) (lo hi : M (Option Int)) : M D := m.bind fun d => lo.bind fun l => hi.bind fun h => pySl d l h
theorem em_slice {lo hi : Option Expr} {ml mh : M (Option Int)} {p2 : Pos} (ha : EM F a Γ ma) (hl : OM F lo Γ ml) (hh : OM F hi Γ mh) : EM F (.Subscript a (.Slice lo hi none p2) pos) Γ (slM ma ml mh) := by
  obtain ⟨ta, pa, ea⟩ := ha
  obtain ⟨tl, pl, el⟩ := hl
  obtain ⟨th, ph, eh⟩ := hh
  refine ⟨tSl (fun x l h H Q => rSlL F.G.K x l h H Q ∨ rSlS x l h H Q ∨ rSlT F.G.K x l h H Q) ta tl th, fun X hX => ?_, fun H0 σ S H Q hh p => ?_⟩
  · have h := pe_slice (p2 := p2) (pos := pos) (sl_list.or (sl_str.or sl_tup)) (pa X hX) (pl X hX) (ph X hX)
    rw [F.hK X hX] at h
    exact h
  · refine ea H0 σ S H _ hh (Po.bind p |>.imp fun d S1 H1 g1 q1 v r => ?_)
    refine el H0 σ S1 H1 _ (hh.grow g1) (Po.bind q1 |>.imp fun l S2 H2 g2 q2 => ?_)
    refine eh H0 σ S2 H2 _ (hh.grow (g1.trans g2)) (Po.bind q2 |>.imp fun h S3 H3 g3 q3 => ?_)
    have r := (r.mono g2.s).mono g3.s
    cases d with
    | str z =>
      obtain ⟨hl, q3⟩ := Po.gate (m := M.ok (D.str (cutS z l h))) q3
      cases r
      exact .inr (.inl ⟨z, rfl, hl, q3.ok g3.sub _ (.str _)⟩)
    | lst xs =>
      cases r with
      | lst h r => exact .inl ⟨_, _, rfl, SqL.of (g3.sub _ _ h), ev_newL (G := F.G) g3.sub (reps_cut r _ _) q3⟩
    | tup xs =>
      obtain ⟨hl, q3⟩ := Po.gate (m := M.ok (D.tup (cutD xs l h))) q3
      cases r with
      | tup h r => exact .inr (.inr ⟨_, _, rfl, SqT.of (g3.sub _ _ h), by rw [r.length]; exact hl, ev_newT (G := F.G) g3.sub (reps_cut r _ _) q3⟩)
    | _ => exact False.elim q3
def flatD : D → Bool
  | .non => true | .bl _ => true | .int _ => true | .str _ => true
  | _ => false
def eqF : D → D → Bool
  | .non, .non => true
  | .bl a, .bl b => a == b
  | .bl a, .int b => (if a then 1 else 0) == b
  | .int a, .bl b => a == (if b then 1 else 0)
  | .int a, .int b => a == b
  | .str a, .str b => a == b
  | _, _ => false
def inD (x : D) (xs : List D) : Bool := xs.any fun y => eqF y x
def memD (neg : Bool) (x y : D) : M D := match y with
  | .tup xs => if flatD x = true ∧ xs.all flatD = true then .ok (.bl (if neg then !inD x xs else inD x xs)) else .stk
  | .lst xs => if flatD x = true ∧ xs.all flatD = true then .ok (.bl (if neg then !inD x xs else inD x xs)) else .stk
  | _ => .stk
theorem rep_flat {G : GG} {S : Hp} {v : V} {d : D} (r : Rep G S v d) (h : flatD d = true) : flatV v = true := by
  cases r <;> first | rfl | exact absurd h Bool.false_ne_true
theorem rep_eqF {G : GG} {S : Hp} {v w : V} {d e : D} (r : Rep G S v d) (q : Rep G S w e) (h : flatD d = true) (k : flatD e = true) : eqV v w = eqF d e := by
  cases r <;> first
    | exact absurd h Bool.false_ne_true
    | (cases q <;> first | exact absurd k Bool.false_ne_true | rfl)
theorem reps_flat {G : GG} {S : Hp} : ∀ {vs : List V} {ds : List D}, Reps G S vs ds → ds.all flatD = true → vs.all flatV = true
  | _, _, .nil, _ => rfl
  | _, _, .cons r q, h => by
    rw [List.all_cons, Bool.and_eq_true] at h ⊢
    exact ⟨rep_flat r h.1, reps_flat q h.2⟩
theorem reps_in {G : GG} {S : Hp} {x : V} {d : D} (r : Rep G S x d) (h : flatD d = true) : ∀ {vs : List V} {ds : List D}, Reps G S vs ds → ds.all flatD = true → inV x vs = inD d ds
  | _, _, .nil, _ => rfl
  | _, _, .cons q qs, k => by
    rw [List.all_cons, Bool.and_eq_true] at k
    have ih := reps_in r h qs k.2
    unfold inV inD at ih ⊢
    rw [List.any_cons, List.any_cons, ih, rep_eqF q r k.1 h]
theorem rm_mem {neg : Bool} : RM F (rIn F.G.K neg) (memD neg) := by
  intro x y vx vy σ S H Q ex rx ry p
  cases y with
  | tup xs =>
    obtain ⟨hl, q⟩ := Po.gate (m := M.ok (D.bl (if neg then !inD x xs else inD x xs))) p
    cases ry with
    | tup h r => exact ⟨_, _, rfl, .inr (SqT.of (ex _ _ h)), rep_flat rx hl.1, reps_flat r hl.2, by rw [reps_in rx hl.1 r hl.2]; exact q.ok ex _ (.bl _)⟩
  | lst xs =>
    obtain ⟨hl, q⟩ := Po.gate (m := M.ok (D.bl (if neg then !inD x xs else inD x xs))) p
    cases ry with
    | lst h r => exact ⟨_, _, rfl, .inl (SqL.of (ex _ _ h)), rep_flat rx hl.1, reps_flat r hl.2, by rw [reps_in rx hl.1 r hl.2]; exact q.ok ex _ (.bl _)⟩
  | _ => exact False.elim p
def isNon : D → Bool
  | .non => true
  | _ => false
def pyIsNot (x y : D) : M D := match y with
  | .non => .ok (.bl (!isNon x))
  | _ => .stk
theorem rep_non {G : GG} {S : Hp} {v : V} {d : D} (r : Rep G S v d) : decide (v = .non) = isNon d := by
  cases r <;> first | rfl | exact decide_eq_false (fun z => by cases z)
theorem rm_isnot : RM F (fun x y H Q => y = .non ∧ Q (.bl (!decide (x = .non))) H) pyIsNot := by
  intro x y vx vy σ S H Q ex rx ry p
  cases y with
  | non => cases ry; exact ⟨rfl, by rw [rep_non rx]; exact Po.ok (a := D.bl (!isNon x)) ex p _ (.bl _)⟩
  | _ => exact False.elim p
structure Fld (G : GG) (c : Nat) (f : Str) : Prop where
  cl : Cls G.K (G.ca c)
  no : NoAttr G.K (G.ca c) f
def pyFld (c : Nat) (f : Str) : D → M D
  | .obj c' fs => if c' = c then ofOpt (fs.lookup f) else .stk
  | _ => .stk
theorem lookup_rep {G : GG} {S : Hp} {f : Str} : ∀ {vs : List (Str × V)} {fs : List (Str × D)} {d : D}, vs.map (·.1) = fs.map (·.1) → Reps G S (vs.map (·.2)) (fs.map (·.2)) → fs.lookup f = some d → ∃ v, vs.lookup f = some v ∧ Rep G S v d
  | [], [], _, _, _, e => by cases e
  | (a, v) :: vs, (b, x) :: fs, d, n, .cons h r, e => by
    obtain ⟨n1, n2⟩ := List.cons.inj n
    have n1 : a = b := n1
    subst n1
    rw [List.lookup_cons] at e ⊢
    cases q : f == a with
    | true => simp only [q] at e ⊢; cases e; exact ⟨v, rfl, h⟩
    | false => simp only [q] at e ⊢; exact lookup_rep n2 r e
theorem em_fld {c : Nat} {f : Str} (K : Fld F.G c f) (ha : EM F a Γ ma) (hb : ∀ X, F.Xs X → attributeBase a f X.env (eval a X.env) = eval a X.env := by intros; rfl) : EM F (.Attribute a f pos) Γ (b1 (pyFld c f) ma) := by
  obtain ⟨t, p, g⟩ := ha
  refine ⟨tFld F.G.K t f, fun X hX => by have h := pe_fld (pos := pos) (p X hX) (hb X hX); rw [F.hK X hX] at h; exact h, fun H0 σ S H Q hh po => ?_⟩
  refine g H0 σ S H _ hh (Po.bind po |>.imp fun d S1 H1 g1 k v r => ?_)
  cases r with
  | @obj ad dx c' vs fs h1 h2 n r =>
    obtain ⟨hc, k2⟩ := Po.gate (m := ofOpt (fs.lookup f)) k
    obtain ⟨x, hx, k3⟩ := Po.opt0 k2
    obtain ⟨v, hv, rv⟩ := lookup_rep n r hx
    rw [hc] at h1
    exact ⟨_, _, dx, vs, v, rfl, g1.sub _ _ h1, K.cl, K.no, hv, k3.ok g1.sub _ rv⟩
  | _ => exact False.elim k
end
end Mir
namespace Mir
open PySem PySem.Spec L2
inductive Out where
  | stk | exn (e : Exc) (Γ : Gam) | ret (d : D) | nx (Γ : Gam)
def Ctl.out {X S : Type} (fx : X → Gam) (fs : S → Gam) : Ctl X S → Out
  | .stk => .stk
  | .exn e x => .exn e (fx x)
  | .ret d => .ret d
  | .nx s => .nx (fs s)
def Ctl.noNx {X S : Type} (c : Ctl X S) : Prop := ∀ s, c ≠ .nx s
def NewV (H : Hp) (v : V) : Prop := ∃ p, v = .ref p ∧ H p = none
def RetW (F : Fm) (H0 S H : Hp) (v : V) (d : D) : Prop := match F.ow with
  | none => Rep F.G S v d
  | some p => ∃ a b, d = .tup [a, b] ∧ Rep F.G S v a ∧ S p = none ∧ OwnAt F.G H0 S H p b
theorem RetW.of {F : Fm} {H0 S H : Hp} {v : V} {d : D} (h : F.ow = none) (r : Rep F.G S v d) : RetW F H0 S H v d := by
  unfold RetW
  rw [h]
  exact r
def OPo (F : Fm) (S0 H0 : Hp) (Dn : Ends) : Out → Prop
  | .stk => False
  | .exn e Γ => ∀ cls dd σ S H, Grow S0 H0 S H → (∃ Δ, Holds F.G H0 σ S H Δ ∧ Weak Δ Γ) → RepX F.G S cls dd e → F.W cls dd σ H
  | .ret d => ∀ v S H, Grow S0 H0 S H → RetW F H0 S H v d → (F.fr = true → NewV H0 v) → Dn.rt v H
  | .nx Γ => ∀ σ S H, Grow S0 H0 S H → Holds F.G H0 σ S H Γ → Dn.nx σ H
def DoesM (F : Fm) (t : TS) (Γ : Gam) (o : Out) : Prop := ∀ S0 H0 Dn σ S H, Grow S0 H0 S H → Holds F.G H0 σ S H Γ → OPo F S0 H0 Dn o → t Dn σ H
def BM (F : Fm) (sts : List Stmt) (Γ : Gam) (o : Out) : Prop := ∃ t, (∀ X, F.Xs X → PSs X sts t) ∧ DoesM F t Γ o
def cE (F : Fm) (e : Expr) : TE := fun σ H Q => ∃ t, (∀ X, F.Xs X → PE X e t) ∧ t σ H Q
def cT (F : Fm) (e : Expr) : TT := fun σ H Q => ∃ t, (∀ X, F.Xs X → PT X e t) ∧ t σ H Q
def cB (F : Fm) (sts : List Stmt) : TS := fun D σ H => ∃ t, (∀ X, F.Xs X → PSs X sts t) ∧ t D σ H
section
variable {F : Fm} {Γ : Gam} {e : Expr} {sts : List Stmt} {m : M D} {mt : M Bool} {o : Out}
theorem cE_ok (X : Cx) (hX : F.Xs X) : PE X e (cE F e) := ⟨fun pins s σ H Q I ⟨_, ht, h⟩ => (ht X hX).run pins s σ H Q I h⟩
theorem cT_ok (X : Cx) (hX : F.Xs X) : PT X e (cT F e) := ⟨fun pins s σ H Q I ⟨_, ht, h⟩ => (ht X hX).run pins s σ H Q I h⟩
theorem cB_ok (X : Cx) (hX : F.Xs X) : PSs X sts (cB F sts) := ⟨fun pins s σ H D I ⟨_, ht, h⟩ => (ht X hX).run pins s σ H D I h⟩
theorem EM.c (h : EM F e Γ m) : EvM F (cE F e) Γ m := let ⟨t, p, q⟩ := h; fun H0 σ S H Q hh po => ⟨t, p, q H0 σ S H Q hh po⟩
theorem TM.c (h : TM F e Γ mt) : EvT F (cT F e) Γ mt := let ⟨t, p, q⟩ := h; fun H0 σ S H Q hh po => ⟨t, p, q H0 σ S H Q hh po⟩
theorem BM.c (h : BM F sts Γ o) : DoesM F (cB F sts) Γ o := let ⟨t, p, q⟩ := h; fun S0 H0 Dn σ S H g hh po => ⟨t, p, q S0 H0 Dn σ S H g hh po⟩
end
theorem Grow.base {S0 H0 S H : Hp} (a : Grow S0 H0 S H) : Grow S H0 S H := ⟨Same.refl _, a.h, a.sub, fun _ _ h => h⟩
theorem Grow.rebase {S0 H0 S H S' H' : Hp} (a : Grow S0 H0 S H) (b : Grow S H0 S' H') : Grow S0 H0 S' H' :=
  ⟨a.s.trans b.s, b.h, b.sub, fun p h1 h2 => b.sep p h1 (a.sep p h1 h2)⟩
theorem OPo.rebase {F : Fm} {S0 H0 S H : Hp} {Dn : Ends} {o : Out} (a : Grow S0 H0 S H) (p : OPo F S0 H0 Dn o) : OPo F S H0 Dn o := by
  cases o with
  | stk => exact p
  | exn e Γ => exact fun cls dd σ S' H' g => p cls dd σ S' H' (a.rebase g)
  | ret d => exact fun v S' H' g => p v S' H' (a.rebase g)
  | nx Γ => exact fun σ S' H' g => p σ S' H' (a.rebase g)
section
variable {F : Fm} {Γ : Gam} {S0 H0 : Hp} {Dn : Ends} {X S : Type} {fx : X → Gam} {fs : S → Gam} {x0 : X} {σ : L2.St} {α : Type}
theorem opo_bind {m : M α} {k : α → Ctl X S} {Si Hi : Hp} (g : Grow S0 H0 Si Hi) (hh : Holds F.G H0 σ Si Hi Γ) (w : Weak Γ (fx x0)) (p : OPo F S0 H0 Dn ((m.bindC x0 k).out fx fs)) :
    Po F.G (WE F.W σ) Si Hi (fun a S1 H1 => Grow S0 H0 S1 H1 ∧ Holds F.G H0 σ S1 H1 Γ ∧ OPo F S0 H0 Dn ((k a).out fx fs)) m := by
  cases m with
  | stk => exact p
  | exn e => exact fun cls dd S' H' g' r => p cls dd σ S' H' (g.trans g') ⟨Γ, hh.grow g', w⟩ r
  | ok a => exact fun S' H' g' => ⟨g.trans g', hh.grow g', p⟩
end
section
variable {F : Fm} {Γ : Gam} {X S J : Type} {fx : X → Gam} {fs : S → Gam} {x0 : X} {a b c e : Expr} {es : List Expr} {ma mb mc m : M D} {mt : M Bool} {pos : Pos} {st : Stmt} {rest body : List Stmt}
theorem bm_cons {t : TS} {o : Out} (h : ∀ X, F.Xs X → PS X st t) (d : DoesM F (tSeq t (cB F rest)) Γ o) : BM F (st :: rest) Γ o := ⟨_, fun X hX => pss_cons (h X hX) (cB_ok X hX), d⟩
theorem bm_nil {s : S} (w : Weak Γ (fs s)) (l : (fs s).length = Γ.length := by rfl) : BM F [] Γ ((Ctl.nx s : Ctl X S).out fx fs) :=
  ⟨_, fun X _ => pss_nil, fun S0 H0 Dn σ S H g hh p => p σ S H g (hh.weak w)⟩
def GM (F : Fm) (st : Stmt) (i : Nat) (Γ : Gam) (m : M D) : Prop := ∃ te, (∀ X, F.Xs X → PS X st (tAsg te (gName i))) ∧ EvM F te Γ m
theorem gm_set (i : Nat) {x : Str} {pos' : Pos} (hi : F.N[i]? = some x) (hl : F.L[i]? = some true) (he : EM F e Γ m) (hs : ∀ X, F.Xs X → swapsWith e (some (.Name x pos')) pos.line X.env = pure false := by intros; rfl) : GM F (.Assign [.Name x pos'] e pos) i Γ m := by
  obtain ⟨t, p, q⟩ := he
  refine ⟨t, fun X hX => ?_, q⟩
  have h := F.loc X hX i x hl hi
  have hn := F.hN X hX
  exact ps_set (by rw [hn]; exact F.nd) (by rw [hn]; exact hi) h.1 (p X hX) (hs X hX) h.2
theorem bm_asg (i : Nat) {k : D → Ctl X S} (h : GM F st i Γ m) (w : Weak Γ (fx x0)) (hr : ∀ d, BM F rest (Γ.set i (Sl.val d)) ((k d).out fx fs)) : BM F (st :: rest) Γ ((m.bindC x0 k).out fx fs) := by
  obtain ⟨t, p, q⟩ := h
  refine bm_cons p fun S0 H0 Dn σ S H g hh po => ?_
  refine q H0 σ S H _ hh ((opo_bind g hh w po).imp fun d S1 H1 _ ⟨g1, h1, p1⟩ v r => ?_)
  exact (hr d).c S0 H0 Dn _ S1 H1 g1 (h1.set r) p1
theorem bm_ret {he : EM F e Γ m} (w : Weak Γ (fx x0)) (hfr : F.fr = false := by rfl) (how : F.ow = none := by rfl) : BM F [.Return (some e) pos] Γ ((m.bindC x0 Ctl.ret : Ctl X S).out fx fs) := by
  obtain ⟨t, p, q⟩ := he
  refine ⟨tRet t, fun X hX => pss_one (ps_ret (p X hX)), fun S0 H0 Dn σ S H g hh po => ?_⟩
  exact q H0 σ S H _ hh ((opo_bind g hh w po).imp fun d S1 H1 _ ⟨g1, h1, p1⟩ v r => p1 v S1 H1 g1 (.of how r) fun z => by rw [hfr] at z; cases z)
theorem OPo.seq {Dn : Ends} {S0 H0 : Hp} {fj : J → Gam} {c : Ctl X J} {k : J → Ctl X S} {nx : L2.St → Hp → Prop} (p : OPo F S0 H0 Dn ((c.bind k).out fx fs)) (h : ∀ j, OPo F S0 H0 Dn ((k j).out fx fs) → ∀ σ S H, Grow S0 H0 S H → Holds F.G H0 σ S H (fj j) → nx σ H) :
    OPo F S0 H0 { Dn with nx := nx } (c.out fx fj) := by
  cases c with
  | stk => exact p
  | exn e x => exact p
  | ret d => exact p
  | nx j => exact fun σ S H g hh => h j p σ S H g hh
theorem bm_if {fj : J → Gam} {ca cb : Ctl X J} {k : J → Ctl X S} {A B : List Stmt} (hc : TM F c Γ mt) (w : Weak Γ (fx x0)) (ha : BM F A Γ (ca.out fx fj)) (hb : BM F B Γ (cb.out fx fj)) (hr : ∀ j, BM F rest (fj j) ((k j).out fx fs)) :
    BM F (.If c A B pos :: rest) Γ (((mt.bindC x0 fun c => if c = true then ca else cb).bind k).out fx fs) := by
  refine bm_cons (t := tIfS (cT F c) (cB F A) (cB F B)) (fun X hX => ps_if (cT_ok X hX) (cB_ok X hX) (cB_ok X hX)) fun S0 H0 Dn σ S H g hh po => ?_
  have po := OPo.seq (nx := cB F rest Dn) (fj := fj) po fun j q σ S H g hh => (hr j).c S0 H0 Dn σ S H g hh q
  refine hc.c H0 σ S H _ hh ((opo_bind g hh w po).imp fun b S1 H1 _ ⟨g1, h1, p1⟩ => ?_)
  cases b with
  | true => exact iteT (ha.c S0 H0 _ σ S1 H1 g1 h1 p1)
  | false => exact iteF (hb.c S0 H0 _ σ S1 H1 g1 h1 p1)
theorem OPo.leave {Dn : Ends} {S0 H0 : Hp} {c : Ctl X S} {nx : L2.St → Hp → Prop} (n : c.noNx) (p : OPo F S0 H0 Dn (c.out fx fs)) : OPo F S0 H0 { Dn with nx := nx } (c.out fx fs) := by
  cases c with
  | stk => exact p
  | exn e x => exact p
  | ret d => exact p
  | nx s => exact absurd rfl (n s)
theorem bm_ifl {ca k : Ctl X S} {A : List Stmt} (hc : TM F c Γ mt) (w : Weak Γ (fx x0)) (ha : BM F A Γ (ca.out fx fs)) (n : ca.noNx) (hr : BM F rest Γ (k.out fx fs)) :
    BM F (.If c A [] pos :: rest) Γ ((mt.bindC x0 fun c => if c = true then ca else k).out fx fs) := by
  refine bm_cons (t := tIfS (cT F c) (cB F A) tNext) (fun X hX => ps_if (cT_ok X hX) (cB_ok X hX) pss_nil) fun S0 H0 Dn σ S H g hh po => ?_
  refine hc.c H0 σ S H _ hh ((opo_bind g hh w po).imp fun b S1 H1 _ ⟨g1, h1, p1⟩ => ?_)
  cases b with
  | true => exact iteT (ha.c S0 H0 _ σ S1 H1 g1 h1 (OPo.leave n p1))
  | false => exact iteF (hr.c S0 H0 Dn σ S1 H1 g1 h1 p1)
theorem noNx_bindC {α : Type} {m : M α} {k : α → Ctl X S} (h : ∀ a, (k a).noNx) : (m.bindC x0 k).noNx := fun s => by
  cases m with
  | stk => exact fun z => by cases z
  | exn e => exact fun z => by cases z
  | ok a => exact h a s
theorem noNx_ret {d : D} : (Ctl.ret d : Ctl X S).noNx := fun s z => by cases z
theorem noNx_stk : (Ctl.stk : Ctl X S).noNx := fun s z => by cases z
theorem noNx_exn {e : Exc} : (Ctl.exn e x0 : Ctl X S).noNx := fun s z => by cases z
theorem noNx_ite {p : Prop} [Decidable p] {a b : Ctl X S} (h : a.noNx) (k : b.noNx) : (if p then a else b).noNx := by split <;> assumption
theorem noNx_bind {c : Ctl X J} {k : J → Ctl X S} (h : ∀ a, (k a).noNx) : (c.bind k).noNx := fun s => by
  cases c with
  | stk => exact fun z => by cases z
  | exn e => exact fun z => by cases z
  | ret d => exact fun z => by cases z
  | nx a => exact h a s
def ItSem (G : GG) (J : It) (S : Hp) (ds : List D) : Prop := ∀ S' H', Ex S S' → Ex S' H' → J.stop ds.length H' ∧ ∀ i d, ds[i]? = some d → J.go i H' ∧ ∀ x H'', J.yld i H' x H'' → ∃ S'', Grow S' H' S'' H'' ∧ Rep G S'' x d
def IvM (F : Fm) (wi : TI) (Γ : Gam) (m : M (List D)) : Prop := ∀ H0 σ S H R, Holds F.G H0 σ S H Γ → Po F.G (WE F.W σ) S H (fun ds S' H' => ∀ J, ItSem F.G J S' ds → R J H') m → wi σ H R
def IM (F : Fm) (tg iter : Expr) (Γ : Gam) (m : M (List D)) : Prop := ∃ wi, (∀ X, F.Xs X → PI X tg iter wi) ∧ IvM F wi Γ m
def TgM (F : Fm) (tg : Expr) (f : D → Gam → Option Gam) : Prop := ∃ g, (∀ X, F.Xs X → PG X tg g) ∧ ∀ H0 σ S H v d Γ Γ' (Q : L2.St → Hp → Prop), Holds F.G H0 σ S H Γ → Rep F.G S v d → f d Γ = some Γ' → (∀ σ', Holds F.G H0 σ' S H Γ' → σ'.length = σ.length → (∀ i : Nat, F.L[i]? ≠ some true → σ'[i]? = σ[i]?) → Q σ' H) → g v σ H Q
theorem tg_name (i : Nat) {x : Str} (hi : F.N[i]? = some x) (hl : F.L[i]? = some true) : TgM F (.Name x pos) (fun d Γ => some (Γ.set i (Sl.val d))) := by
  refine ⟨gName i, fun X hX => ?_, fun H0 σ S H v d Γ Γ' Q hh r e q => ?_⟩
  · have h := F.loc X hX i x hl hi
    have hn := F.hN X hX
    exact pg_name (by rw [hn]; exact F.nd) (by rw [hn]; exact hi) h.1 h.2
  · cases e
    exact q _ (hh.set r) (by simp) fun j hj => List.getElem?_set_ne (fun (z : i = j) => hj (by rw [← z]; exact hl))
def forC (f : D → S → Ctl X S) : List D → S → Ctl X S
  | [], s => .nx s
  | d :: ds, s => (f d s).bind (forC f ds)
theorem bm_for {T : Type} {fj : J → Gam} {j0 : J} {mi : M (List D)} {f : D → J → Ctl X J} {tf : D → Gam → Option Gam} {tg iter : Expr} {k : J → Ctl X S} (hi : IM F tg iter Γ mi) (w : Weak Γ (fx x0)) (wj : Weak Γ (fj j0)) (lj : (fj j0).length = Γ.length) (ht : TgM F tg tf)
    (hb : ∀ d j, (∃ Γ', tf d (fj j) = some Γ' ∧ BM F body Γ' ((f d j).out fx fj)) ∨ f d j = .stk) (hr : ∀ j, BM F rest (fj j) ((k j).out fx fs)) (hcm : F.cm = true)
    (hs : ∀ X, F.Xs X → ∀ x, foldedSetIterable iter X.env x = pure x := by intros; rfl) :
    BM F (.For tg iter body [] pos :: rest) Γ ((mi.bindC x0 fun ds => (forC f ds j0).bind k).out fx fs) := by
  obtain ⟨wi, pi, ei⟩ := hi
  obtain ⟨g, pg, eg⟩ := ht
  refine bm_cons (t := tFor wi g (cB F body)) (fun X hX => ps_for (F.po X hX) (F.hc hcm X hX) (pi X hX) (pg X hX) (cB_ok X hX) (hs X hX)) fun S0 H0 Dn σ S H gr hh po => ?_
  refine ei H0 σ S H _ hh ((opo_bind gr hh w po).imp fun ds S1 H1 _ ⟨g1, h1, p1⟩ J hJ => ?_)
  refine ⟨fun i m σ2 H2 => m = ds.length - i ∧ i ≤ ds.length ∧ ∃ S2 j, Grow S0 H0 S2 H2 ∧ Ex S1 S2 ∧ Holds F.G H0 σ2 S2 H2 (fj j) ∧ OPo F S0 H0 Dn (((forC f (ds.drop i) j).bind k).out fx fs), ⟨ds.length, by simp, Nat.zero_le _, S1, j0, g1, Same.refl _, h1.weak wj, p1⟩, ?_⟩
  rintro i m σ2 H2 ⟨rfl, hi, S2, j, g2, e12, hh2, p2⟩
  obtain ⟨stop, go⟩ := hJ S2 H2 e12 g2.sub
  by_cases hlt : i < ds.length
  · obtain ⟨hgo, hy⟩ := go i ds[i] (List.getElem?_eq_getElem hlt)
    refine .inr ⟨hgo, fun σ3 H3 => ∃ S3 j, Grow S0 H0 S3 H3 ∧ Ex S1 S3 ∧ Holds F.G H0 σ3 S3 H3 (fj j) ∧ OPo F S0 H0 Dn (((forC f (ds.drop (i + 1)) j).bind k).out fx fs), fun σ' H' q => ⟨ds.length - (i + 1), by omega, rfl, hlt, q⟩, fun x H3 y => ?_⟩
    obtain ⟨S3, g3, r3⟩ := hy x H3 y
    rw [List.drop_eq_getElem_cons hlt] at p2
    have p2 : OPo F S0 H0 Dn ((((f ds[i] j).bind (forC f (ds.drop (i + 1)))).bind k).out fx fs) := p2
    rcases hb ds[i] j with ⟨Γ', e', hbm⟩ | hstk
    · refine eg H0 σ2 S3 H3 x ds[i] (fj j) Γ' _ (hh2.grow g3) r3 e' fun σ3 hh3 _ _ => ?_
      have gg : Grow S0 H0 S3 H3 := g2.trans g3
      refine hbm.c S3 H0 _ σ3 S3 H3 gg.base hh3 ?_
      revert p2
      cases f ds[i] j with
      | stk => exact fun p2 => p2
      | exn e x => exact fun p2 => OPo.rebase (o := Out.exn e (fx x)) gg p2
      | ret d => exact fun p2 => OPo.rebase (o := Out.ret d) gg p2
      | nx s => exact fun p2 σ4 S4 H4 g4 hh4 => ⟨S4, s, gg.rebase g4, (e12.trans g3.s).trans g4.s, hh4, p2⟩
    · rw [hstk] at p2
      exact False.elim p2
  · have e : i = ds.length := by omega
    subst e
    refine .inl ⟨stop, ?_⟩
    rw [List.drop_length] at p2
    exact (hr j).c S0 H0 Dn σ2 S2 H2 g2 hh2 p2
end
end Mir
namespace Mir
open PySem PySem.Spec L2
theorem PI_or {X : Cx} {tg e : Expr} {t u : TI} (h : PI X tg e t) (k : PI X tg e u) : PI X tg e (fun σ H R => t σ H R ∨ u σ H R) :=
  ⟨fun pins s σ H R I q => q.elim (h.run pins s σ H R I) (k.run pins s σ H R I)⟩
def signsD (x : Str) : List D := x.cps.toList.map fun c => .str ⟨#[c]⟩
def pyItems : D → M (List D)
  | .lst xs => .ok xs
  | .tup xs => .ok xs
  | .ktp xs => .ok xs
  | .scr ns => .ok (ns.map .int)
  | .str x => .ok (signsD x)
  | _ => .stk
section
variable {F : Fm} {Γ : Gam} {a b c e : Expr} {es : List Expr} {ma mb mc m : M D} {mt : M Bool} {pos : Pos} {tg iter : Expr} {G : GG} {S : Hp}
theorem it_list {p : Addr} {vs : List V} {ds : List D} (h : SqL G.K S p vs) (r : Reps G S vs ds) : ItSem G (Itl G.K p) S ds := fun S' H' e1 e2 => by
  have h' := ex_l e2 (ex_l e1 h)
  refine ⟨⟨vs, h', by rw [r.length]; exact Nat.le_refl _⟩, fun i d hd => ?_⟩
  obtain ⟨v, hv, rv⟩ := r.get hd
  refine ⟨⟨vs, v, h', hv⟩, fun x H'' y => ?_⟩
  obtain ⟨rfl, y⟩ := y
  have : v = x := Option.some.inj (hv.symm.trans (y vs h'))
  subst this
  exact ⟨S', Grow.refl e2, rv.mono e1⟩
theorem it_tup {p : Addr} {vs : List V} {ds : List D} (h : SqT G.K S p vs) (r : Reps G S vs ds) : ItSem G (Itt G.K p) S ds := fun S' H' e1 e2 => by
  have h' := ex_t e2 (ex_t e1 h)
  refine ⟨⟨vs, h', by rw [r.length]; exact Nat.le_refl _⟩, fun i d hd => ?_⟩
  obtain ⟨v, hv, rv⟩ := r.get hd
  refine ⟨⟨vs, v, h', hv⟩, fun x H'' y => ?_⟩
  obtain ⟨rfl, y⟩ := y
  have : v = x := Option.some.inj (hv.symm.trans (y vs h'))
  subst this
  exact ⟨S', Grow.refl e2, rv.mono e1⟩
theorem it_str {x : Str} : ItSem G (Its x) S (signsD x) := fun S' H' e1 e2 => by
  refine ⟨by show x.cps.size ≤ (signsD x).length; unfold signsD; rw [List.length_map, Array.length_toList]; exact Nat.le_refl _, fun i d hd => ?_⟩
  unfold signsD at hd
  rw [List.getElem?_map, Array.getElem?_toList] at hd
  cases q : x.cps[i]? with
  | none => rw [q] at hd; cases hd
  | some c =>
    rw [q] at hd
    cases hd
    refine ⟨(Array.getElem?_eq_some_iff.mp q).1, fun v H'' y => ?_⟩
    obtain ⟨rfl, c', hc, rfl⟩ := y
    rw [q] at hc
    cases hc
    exact ⟨S', Grow.refl e2, .str _⟩
theorem reps_ints {ns : List Int} : Reps G S (ns.map V.int) (ns.map D.int) := by
  induction ns with
  | nil => exact .nil
  | cons n ns ih => exact .cons (.int n) ih
theorem im_seq (he : EM F e Γ m) : IM F tg e Γ (b1 pyItems m) := by
  obtain ⟨t, p, f⟩ := he
  refine ⟨fun σ H R => (iList F.G.K t σ H R ∨ iTup F.G.K t σ H R) ∨ iStr t σ H R, fun X hX => ?_, fun H0 σ S H R hh po => ?_⟩
  · have h := PI_or (PI_or (pi_list (tg := tg) (p X hX)) (pi_tup (p X hX))) (pi_str (p X hX))
    rw [F.hK X hX] at h
    exact h
  · cases m with
    | stk => exact False.elim po
    | exn e => exact .inl (.inl (f H0 σ S H _ hh po))
    | ok d =>
      cases d with
      | lst xs =>
        refine .inl (.inl (f H0 σ S H _ hh fun S1 H1 g v r => ?_))
        cases r with
        | lst h r => exact ⟨_, rfl, ⟨_, SqL.of (g.sub _ _ h)⟩, po S1 H1 g _ (it_list (SqL.of h) r)⟩
      | scr xs =>
        refine .inl (.inl (f H0 σ S H _ hh fun S1 H1 g v r => ?_))
        cases r with
        | scr h => exact ⟨_, rfl, ⟨_, ex_l g.sub h⟩, po S1 H1 g _ (it_list h reps_ints)⟩
      | tup xs =>
        refine .inl (.inr (f H0 σ S H _ hh fun S1 H1 g v r => ?_))
        cases r with
        | tup h r => exact ⟨_, rfl, ⟨_, SqT.of (g.sub _ _ h)⟩, po S1 H1 g _ (it_tup (SqT.of h) r)⟩
      | ktp xs =>
        refine .inl (.inr (f H0 σ S H _ hh fun S1 H1 g v r => ?_))
        cases r with
        | kt kt rr => exact ⟨_, rfl, ⟨_, .inr kt⟩, po S1 H1 g _ (it_tup (.inr kt) rr.reps)⟩
      | str x =>
        refine .inr (f H0 σ S H _ hh fun S1 H1 g v r => ?_)
        cases r
        exact ⟨x, rfl, po S1 H1 g _ it_str⟩
      | _ => exact False.elim po
def rangeD (lo : Int) (n : Nat) : List D := (List.range n).map fun (i : Nat) => D.int (lo + (i : Int))
theorem it_range {lo : Int} {n : Nat} : ItSem G (Itr lo n) S (rangeD lo n) := fun S' H' e1 e2 => by
  refine ⟨by show n ≤ (rangeD lo n).length; unfold rangeD; rw [List.length_map, List.length_range]; exact Nat.le_refl _, fun i d hd => ?_⟩
  unfold rangeD at hd
  rw [List.getElem?_map] at hd
  by_cases hi : i < n
  · rw [List.getElem?_range hi] at hd
    cases hd
    refine ⟨hi, fun x H'' y => ?_⟩
    obtain ⟨rfl, rfl⟩ := y
    exact ⟨S', Grow.refl e2, .int _⟩
  · rw [List.getElem?_eq_none (by rw [List.length_range]; omega)] at hd
    cases hd
def pyRange1 : List D → M (List D)
  | [.int j] => if -(2 ^ 62) ≤ j ∧ j < 2 ^ 62 then .ok (rangeD 0 j.toNat) else .stk
  | _ => .stk
theorem im_range1 {p : Pos} {ml : M (List D)} (hg : F.kd.lookup ("range" : Str) = some NameKind.globalImplicit) (hm : F.G.mg "range" = none) (ha : AM F [a] Γ ml) (hs : ∀ X, F.Xs X → starEach [a] X.env = [(false, eval a X.env)] := by intros; rfl) :
    IM F tg (.Call (.Name "range" p) [a] [] pos) Γ (b1 pyRange1 ml) := by
  obtain ⟨t, q, f⟩ := ha
  refine ⟨iRng1 t, fun X hX => pi_range1 (F.gl X hX hg) (by rw [(F.hX X hX).2.2.2.1]; exact hm) (q X hX) (hs X hX), fun H0 σ S H R hh po => ?_⟩
  refine f H0 σ S H _ hh ((Po.bind po).imp fun ds S1 H1 g k vs r => ?_)
  match ds, r, k with
  | [.int j], r, k =>
    obtain ⟨v, e, h⟩ := reps1 r
    subst e
    cases h
    obtain ⟨hj, k⟩ := Po.gate (m := M.ok (rangeD 0 j.toNat)) k
    exact ⟨j, rfl, hj.1, hj.2, k.ok g.sub _ it_range⟩
def TgsM (F : Fm) (tgs : List Expr) (f : List D → Gam → Option Gam) : Prop := ∃ g, (∀ X, F.Xs X → PGs X tgs g) ∧ ∀ H0 σ S H vs ds Γ Γ' (Q : L2.St → Hp → Prop), Holds F.G H0 σ S H Γ → Reps F.G S vs ds → f ds Γ = some Γ' → (∀ σ', Holds F.G H0 σ' S H Γ' → σ'.length = σ.length → (∀ i : Nat, F.L[i]? ≠ some true → σ'[i]? = σ[i]?) → Q σ' H) → g vs σ H Q
def tgNil (ds : List D) (Γ : Gam) : Option Gam := match ds with
  | [] => some Γ
  | _ => none
def tgCons (f : D → Gam → Option Gam) (g : List D → Gam → Option Gam) (ds : List D) (Γ : Gam) : Option Gam := match ds with
  | [] => none
  | d :: r => (f d Γ).bind (g r)
def unD : D → Option (List D)
  | .tup ds => some ds
  | .lst ds => some ds
  | _ => none
def tgTup (g : List D → Gam → Option Gam) (d : D) (Γ : Gam) : Option Gam := match unD d with
  | some ds => g ds Γ
  | none => none
theorem tgTup_at {g : List D → Gam → Option Gam} {d : D} {ds : List D} {Γ : Gam} (h : unD d = some ds) : tgTup g d Γ = g ds Γ := by
  unfold tgTup
  rw [h]
theorem tgs_nil : TgsM F [] tgNil := by
  refine ⟨gNil, fun X _ => pgs_nil, fun H0 σ S H vs ds Γ Γ' Q hh r e q => ?_⟩
  cases r with
  | nil => cases e; exact ⟨rfl, q σ hh rfl fun _ _ => rfl⟩
  | cons _ _ => cases e
theorem tgs_cons {e : Expr} {es : List Expr} {f : D → Gam → Option Gam} {g : List D → Gam → Option Gam} (h : TgM F e f) (k : TgsM F es g) (hs : ∀ X, F.Xs X → (assignEach (e :: es) X.env).map (·.2) = assign e X.env :: (assignEach es X.env).map (·.2) := by intros; rfl) : TgsM F (e :: es) (tgCons f g) := by
  obtain ⟨t, p, ft⟩ := h
  obtain ⟨u, q, fu⟩ := k
  refine ⟨gCons t u, fun X hX => pgs_cons (p X hX) (q X hX) (hs X hX), fun H0 σ S H vs ds Γ Γ' Q hh r e qq => ?_⟩
  cases r with
  | nil => cases e
  | @cons v vs d ds rv rs =>
    have e : (f d Γ).bind (g ds) = some Γ' := e
    cases z : f d Γ with
    | none => rw [z] at e; cases e
    | some Γ1 =>
      rw [z] at e
      refine ⟨v, vs, rfl, ft H0 σ S H v d Γ Γ1 _ hh rv z fun σ1 h1 l1 k1 => ?_⟩
      exact fu H0 σ1 S H vs ds Γ1 Γ' Q h1 rs e fun σ2 h2 l2 k2 => qq σ2 h2 (l2.trans l1) fun i hi => (k2 i hi).trans (k1 i hi)
theorem tg_tup {es : List Expr} {k : Nat} {g : List D → Gam → Option Gam} (n : Nat) (h : TgsM F es g) (hcm : F.cm = true) (hl : ∀ ds Γ, g ds Γ ≠ none → ds.length = n) (hn : ∀ X, F.Xs X → (assignEach es X.env).length = n := by intros; rfl) (hst : ∀ X, F.Xs X → (assignEach es X.env).findIdx? (·.1) = none := by intros; rfl) : TgM F (.Tuple es k pos) (tgTup g) := by
  obtain ⟨t, p, f⟩ := h
  refine ⟨fun v σ H Q => gTup F.G.K n t v σ H Q ∨ gLst F.G.K n t v σ H Q, fun X hX => ?_, fun H0 σ S H v d Γ Γ' Q hh r e q => ?_⟩
  · have h := pg_tup (pos := pos) (k := k) (F.hc hcm X hX) (p X hX) (hn X hX) (hst X hX)
    rw [F.hK X hX] at h
    have h' := pg_lst (pos := pos) (k := k) (F.hc hcm X hX) (p X hX) (hn X hX) (hst X hX)
    rw [F.hK X hX] at h'
    exact ⟨fun pins s σ H v u Q I r hw => hw.elim (h.run pins s σ H v u Q I r) (h'.run pins s σ H v u Q I r)⟩
  · cases r with
    | tup h r =>
      rename_i ds
      have e : g ds Γ = some Γ' := e
      exact .inl ⟨_, _, rfl, SqT.of (hh.ex _ _ h), by rw [r.length]; exact hl ds Γ (by rw [e]; exact fun z => by cases z), f H0 σ S H _ ds Γ Γ' Q hh r e q⟩
    | lst h r =>
      rename_i ds
      have e : g ds Γ = some Γ' := e
      exact .inr ⟨_, _, rfl, SqL.of (hh.ex _ _ h), by rw [r.length]; exact hl ds Γ (by rw [e]; exact fun z => by cases z), f H0 σ S H _ ds Γ Γ' Q hh r e q⟩
    | _ => cases e
theorem tgc_len {f : D → Gam → Option Gam} {g : List D → Gam → Option Gam} {n : Nat} (h : ∀ ds Γ, g ds Γ ≠ none → ds.length = n) : ∀ ds Γ, tgCons f g ds Γ ≠ none → ds.length = n + 1
  | [], _, z => absurd rfl z
  | d :: ds, Γ, z => by
    have z : (f d Γ).bind (g ds) ≠ none := z
    cases q : f d Γ with
    | none => rw [q] at z; exact absurd rfl z
    | some Γ1 => rw [q] at z; exact congrArg (· + 1) (h ds Γ1 z)
theorem tgn_len : ∀ ds Γ, tgNil ds Γ ≠ none → ds.length = 0
  | [], _, _ => rfl
  | _ :: _, _, z => absurd rfl z
theorem bm_asgT {X S : Type} {fx : X → Gam} {fs : S → Gam} {x0 : X} {tf : D → Gam → Option Gam} {rest : List Stmt} {k : D → Ctl X S} (he : EM F e Γ m) (ht : TgM F tg tf) (w : Weak Γ (fx x0))
    (hr : ∀ d, (∃ Γ', tf d Γ = some Γ' ∧ BM F rest Γ' ((k d).out fx fs)) ∨ k d = .stk) (hs : ∀ X, F.Xs X → swapsWithSole [tg] e pos.line X.env = pure false := by intros; rfl) (hw : ∀ X, F.Xs X → swappedStores [tg] e X.env = pure none := by intros; rfl)
    (h1 : ∀ X, F.Xs X → (assignEach [tg] X.env).map (·.2) = [assign tg X.env] := by intros; rfl) : BM F (.Assign [tg] e pos :: rest) Γ ((m.bindC x0 k).out fx fs) := by
  obtain ⟨t, p, q⟩ := he
  obtain ⟨g, pg, eg⟩ := ht
  refine bm_cons (fun X hX => ps_asg (p X hX) (pg X hX) (hs X hX) (hw X hX) (h1 X hX)) fun S0 H0 Dn σ S H gr hh po => ?_
  refine q H0 σ S H _ hh ((opo_bind gr hh w po).imp fun d S1 H1 _ ⟨g1, h1, p1⟩ v r => ?_)
  rcases hr d with ⟨Γ', e', hb⟩ | z
  · exact eg H0 σ S1 H1 v d Γ Γ' _ h1 r e' fun σ' h2 _ _ => hb.c S0 H0 Dn σ' S1 H1 g1 h2 p1
  · rw [z] at p1
    exact False.elim p1
theorem Holds.setOwn {H0 : Hp} {σ : L2.St} {S H S' H' : Hp} {i : Nat} {p : Addr} {d : D} (h : Holds G H0 σ S H Γ) (g : Grow S H S' H') (hp : S' p = none) (hn : H p = none) (o : OwnAt G H0 S' H' p d) : Holds G H0 (σ.set i (some (.ref p))) S' H' (Γ.set i (Sl.own d)) := by
  have h2 := h.grow g
  have old : ∀ {j : Nat} {e : D} {q : Addr}, Γ[j]? = some (Sl.own e) → σ[j]? = some (some (.ref q)) → q ≠ p := fun {j e q} a b z => by
    obtain ⟨q', b', _, _, o'⟩ := h.own j e a
    rw [b] at b'
    cases b'
    subst z
    exact o'.there hn
  refine ⟨h2.ex, h2.e0, by simpa using h2.len, fun j e q => ?_, fun j e q => ?_, fun j k a b r q1 q2 q3 q4 => ?_, fun j a q => by obtain ⟨n, q⟩ := set_ref q (fun _ z => by cases z); rw [List.getElem?_set_ne n]; exact h2.ref j a q⟩
  · by_cases z : i = j
    · subst z
      by_cases hl : i < Γ.length
      · rw [List.getElem?_set_self hl] at q; cases q
      · rw [List.getElem?_eq_none (by simpa using hl)] at q; cases q
    · rw [List.getElem?_set_ne z] at q ⊢
      exact h2.val j e q
  · by_cases z : i = j
    · subst z
      by_cases hl : i < Γ.length
      · rw [List.getElem?_set_self hl] at q
        cases q
        exact ⟨p, List.getElem?_set_self (Nat.lt_of_lt_of_le hl h.len), hp, h.e0.free hn, o⟩
      · rw [List.getElem?_eq_none (by simpa using hl)] at q; cases q
    · rw [List.getElem?_set_ne z] at q ⊢
      exact h2.own j e q
  · by_cases z1 : i = j
    · by_cases z2 : i = k
      · exact z1.symm.trans z2
      · subst z1
        rw [List.getElem?_set_ne z2] at q2 q4
        have hl : i < σ.length := by
          by_cases hl : i < σ.length
          · exact hl
          · rw [List.getElem?_eq_none (by simpa using hl)] at q3; cases q3
        rw [List.getElem?_set_self hl] at q3
        cases q3
        exact absurd rfl (old q2 q4)
    · by_cases z2 : i = k
      · subst z2
        rw [List.getElem?_set_ne z1] at q1 q3
        have hl : i < σ.length := by
          by_cases hl : i < σ.length
          · exact hl
          · rw [List.getElem?_eq_none (by simpa using hl)] at q4; cases q4
        rw [List.getElem?_set_self hl] at q4
        cases q4
        exact absurd rfl (old q1 q3)
      · rw [List.getElem?_set_ne z1] at q1 q3
        rw [List.getElem?_set_ne z2] at q2 q4
        exact h2.dis j k a b r q1 q2 q3 q4
def EvF (F : Fm) (te : TE) (Γ : Gam) (m : M D) : Prop := ∀ H0 σ S H Q, Holds F.G H0 σ S H Γ → Po F.G (WE F.W σ) S H (fun d S' H' => ∀ p, S' p = none → H p = none → OwnAt F.G H0 S' H' p d → Q (.ref p) H') m → te σ H Q
def FE (F : Fm) (e : Expr) (Γ : Gam) (m : M D) : Prop := ∃ te, (∀ X, F.Xs X → PE X e te) ∧ EvF F te Γ m
theorem fe_lst {ml : M (List D)} (h : AM F es Γ ml) : FE F (.List es pos) Γ (b1 mkLst ml) := by
  obtain ⟨t, p, f⟩ := h
  refine ⟨tLst t, fun X hX => pe_lst (p X hX), fun H0 σ S H Q hh po => ?_⟩
  refine f H0 σ S H _ hh (Po.bind po |>.imp fun ds S1 H1 g1 k vs r => ?_)
  obtain ⟨hl, k⟩ := Po.gate (m := M.ok (D.lst ds)) k
  refine ⟨by rw [r.length]; exact hl, fun q hq => ?_⟩
  exact k S1 _ (Grow.newOwn g1.sub hq) q (sub_none g1.sub hq) (g1.h.free hq) ⟨vs, upd_same, r⟩
theorem fe_dict0 : FE F (.Dict [] [] pos) Γ (.ok (.dct [])) := by
  refine ⟨tDNewT, fun X hX => pe_dnewT, fun H0 σ S H Q hh po => fun q hq => ?_⟩
  exact po S _ (Grow.newOwn hh.ex hq) q (sub_none hh.ex hq) hq ⟨[], upd_same, rfl, .nil⟩
def GF (F : Fm) (st : Stmt) (i : Nat) (Γ : Gam) (m : M D) : Prop := ∃ te, (∀ X, F.Xs X → PS X st (tAsg te (gName i))) ∧ EvF F te Γ m
theorem gf_set (i : Nat) {x : Str} {pos' : Pos} (hi : F.N[i]? = some x) (hl : F.L[i]? = some true) (he : FE F e Γ m) (hs : ∀ X, F.Xs X → swapsWith e (some (.Name x pos')) pos.line X.env = pure false := by intros; rfl) : GF F (.Assign [.Name x pos'] e pos) i Γ m := by
  obtain ⟨t, p, q⟩ := he
  refine ⟨t, fun X hX => ?_, q⟩
  have h := F.loc X hX i x hl hi
  have hn := F.hN X hX
  exact ps_set (by rw [hn]; exact F.nd) (by rw [hn]; exact hi) h.1 (p X hX) (hs X hX) h.2
theorem bm_asgO {X S : Type} {fx : X → Gam} {fs : S → Gam} {x0 : X} {st : Stmt} {rest : List Stmt} (i : Nat) {k : D → Ctl X S} (h : GF F st i Γ m) (w : Weak Γ (fx x0)) (hr : ∀ d, BM F rest (Γ.set i (Sl.own d)) ((k d).out fx fs)) : BM F (st :: rest) Γ ((m.bindC x0 k).out fx fs) := by
  obtain ⟨t, p, q⟩ := h
  refine bm_cons p fun S0 H0 Dn σ S H g hh po => ?_
  have pb := opo_bind g hh w po
  refine q H0 σ S H _ hh (pb.imp fun d S1 H1 gg ⟨g1, _, p1⟩ a h1 h2 o => ?_)
  exact (hr d).c S0 H0 Dn _ S1 H1 g1 (hh.setOwn gg h1 h2 o) p1
theorem bm_give {sts : List Stmt} {o : Out} (i : Nat) {d : D} (hi : Γ[i]? = some (Sl.own d)) (h : BM F sts (Γ.set i (Sl.val d)) o) : BM F sts Γ o := by
  refine ⟨cB F sts, fun X hX => cB_ok X hX, fun S0 H0 Dn σ S H g hh po => ?_⟩
  obtain ⟨p, hp, hs, h0, oa⟩ := hh.own i d hi
  have hl : i < Γ.length := (List.getElem?_eq_some_iff.mp hi).1
  have key : ∀ S1, Ex S S1 → Ex S1 H → (∀ q, H0 q ≠ none → S q = none → S1 q = none) → Rep F.G S1 (.ref p) d → (∀ j e q, Γ[j]? = some (Sl.own e) → j ≠ i → σ[j]? = some (some (.ref q)) → S1 q = none ∧ OwnAt F.G H0 S1 H q e) → cB F sts Dn σ H := by
    intro S1 e1 e2 e3 r ow
    refine h.c S0 H0 Dn σ S1 H ⟨g.s.trans e1, g.h, e2, fun q a b => e3 q a.ne (g.sep q a b)⟩ ?_ po
    refine ⟨e2, hh.e0, by simpa using hh.len, fun j e q => ?_, fun j e q => ?_, fun j k a b r q1 q2 q3 q4 => ?_, fun j a q => ⟨(hh.ref j a (set_ref q (fun _ z => by cases z)).2).1, (hh.ref j a (set_ref q (fun _ z => by cases z)).2).2.mono e1⟩⟩
    · by_cases z : i = j
      · subst z
        rw [List.getElem?_set_self hl] at q
        cases q
        exact ⟨_, hp, r⟩
      · rw [List.getElem?_set_ne z] at q
        obtain ⟨v, hv, rv⟩ := hh.val j e q
        exact ⟨v, hv, rv.mono e1⟩
    · by_cases z : i = j
      · subst z
        rw [List.getElem?_set_self hl] at q
        cases q
      · rw [List.getElem?_set_ne z] at q
        obtain ⟨a, b, c, d', o'⟩ := hh.own j e q
        obtain ⟨c', o'⟩ := ow j e a q (Ne.symm z) b
        exact ⟨a, b, c', d', o'⟩
    · have n1 : i ≠ j := fun z => by subst z; rw [List.getElem?_set_self hl] at q1; cases q1
      have n2 : i ≠ k := fun z => by subst z; rw [List.getElem?_set_self hl] at q2; cases q2
      rw [List.getElem?_set_ne n1] at q1
      rw [List.getElem?_set_ne n2] at q2
      exact hh.dis j k a b r q1 q2 q3 q4
  have others : ∀ (S1 : Hp), Ex S S1 → (∀ q, S q = none → q ≠ p → (∀ b, H q = some (.own b) → b ≠ p) → S1 q = none) → ∀ (j : Nat) e q, Γ[j]? = some (Sl.own e) → j ≠ i → σ[j]? = some (some (.ref q)) → S1 q = none ∧ OwnAt F.G H0 S1 H q e := by
    intro S1 e1 hn j e q hj ne hσ
    obtain ⟨q', b', c, _, o'⟩ := hh.own j e hj
    rw [hσ] at b'
    cases b'
    have nq : q ≠ p := fun z => by subst z; exact ne (hh.dis j i e d q hj hi hσ hp)
    have nown : ∀ b, H q = some (.own b) → b ≠ p := fun b hb => by
      cases e with
      | lst ds => obtain ⟨_, e, _⟩ := o'; rw [e] at hb; cases hb
      | dct ds => obtain ⟨_, e, _⟩ := o'; rw [e] at hb; cases hb
      | dks ds => obtain ⟨_, e, _⟩ := o'; rw [e] at hb; cases hb
      | obj c fs => obtain ⟨_, _, e, _⟩ := o'; rw [e] at hb; cases hb
      | slf a0 c fs => obtain ⟨_, _, _, e, _⟩ := o'; rw [e] at hb; cases hb
      | _ => exact False.elim o'
    refine ⟨hn q c nq nown, ?_⟩
    cases e with
    | lst ds => obtain ⟨vs, e, r⟩ := o'; exact ⟨vs, e, r.mono e1⟩
    | dct ds => obtain ⟨vs, e, n, r⟩ := o'; exact ⟨vs, e, n, r.mono e1⟩
    | dks ds => obtain ⟨vs, e, n, r⟩ := o'; exact ⟨vs, e, n, r.mono e1⟩
    | obj c fs =>
      obtain ⟨dx, vs, e, e2, e3, e4, n, r⟩ := o'
      refine ⟨dx, vs, e, e2, hn dx e3 (fun z => ?_) (fun b hb => by rw [e2] at hb; cases hb; exact nq), e4, n, r.mono e1⟩
      subst z
      cases d with
      | lst ds => obtain ⟨_, z, _⟩ := oa; rw [e2] at z; cases z
      | dct ds => obtain ⟨_, z, _⟩ := oa; rw [e2] at z; cases z
      | dks ds => obtain ⟨_, z, _⟩ := oa; rw [e2] at z; cases z
      | obj c fs => obtain ⟨_, _, z, _⟩ := oa; rw [e2] at z; cases z
      | slf a0 c fs => obtain ⟨_, _, _, z, _⟩ := oa; rw [e2] at z; cases z
      | _ => exact False.elim oa
    | slf a0 c fs =>
      obtain ⟨hp0, dx, vs, e, e2, e3, e4, n, r⟩ := o'
      refine ⟨hp0, dx, vs, e, e2, hn dx e3 (fun z => ?_) (fun b hb => by rw [e2] at hb; cases hb; exact nq), e4, n, r.mono e1⟩
      subst z
      cases d with
      | lst ds => obtain ⟨_, z, _⟩ := oa; rw [e2] at z; cases z
      | dct ds => obtain ⟨_, z, _⟩ := oa; rw [e2] at z; cases z
      | dks ds => obtain ⟨_, z, _⟩ := oa; rw [e2] at z; cases z
      | obj c fs => obtain ⟨_, _, z, _⟩ := oa; rw [e2] at z; cases z
      | slf a0 c fs => obtain ⟨_, _, _, z, _⟩ := oa; rw [e2] at z; cases z
      | _ => exact False.elim oa
    | _ => exact False.elim o'
  have one : ∀ o, H p = some o → Rep F.G (upd S p o) (.ref p) d → cB F sts Dn σ H := fun o ho r => by
    refine key (upd S p o) (ex_upd hs) (fun a u q => ?_) (fun q a b => ?_) r (others _ (ex_upd hs) fun q a b _ => by rw [upd_ne b]; exact a)
    · by_cases z : a = p
      · subst z; rw [upd_same] at q; rw [ho]; exact q
      · rw [upd_ne z] at q; exact hh.ex a u q
    · rw [upd_ne (fun z => by subst z; exact a h0)]; exact b
  cases d with
  | lst ds => obtain ⟨vs, e, r⟩ := oa; exact one _ e (.lst upd_same (r.mono (ex_upd hs)))
  | dct ds => obtain ⟨vs, e, n, r⟩ := oa; exact one _ e (.dct (.inl upd_same) n (r.mono (ex_upd hs)))
  | dks ds => obtain ⟨vs, e, n, r⟩ := oa; exact one _ e (.dks (.inl upd_same) n (r.mono (ex_upd hs)))
  | obj c fs =>
    obtain ⟨dx, vs, e, e2, e3, e4, n, r⟩ := oa
    have nd : dx ≠ p := fun z => by subst z; rw [e2] at e; cases e
    have x1 : Ex S (upd S dx (.own p)) := ex_upd e3
    have hs1 : (upd S dx (.own p)) p = none := by rw [upd_ne (Ne.symm nd)]; exact hs
    have x2 : Ex S (upd (upd S dx (.own p)) p (.ins (F.G.ca c) dx vs)) := x1.trans (ex_upd hs1)
    refine key _ x2 (fun a u q => ?_) (fun q a b => ?_) (.obj upd_same (by rw [upd_ne nd, upd_same]) n (r.mono x2)) (others _ x2 fun q a b cc => ?_)
    · by_cases z : a = p
      · subst z; rw [upd_same] at q; rw [e]; exact q
      · rw [upd_ne z] at q
        by_cases z2 : a = dx
        · subst z2; rw [upd_same] at q; rw [e2]; exact q
        · rw [upd_ne z2] at q; exact hh.ex a u q
    · rw [upd_ne (fun z => by subst z; exact a h0)]
      by_cases z2 : q = dx
      · subst z2
        exact absurd e4 a
      · rw [upd_ne z2]; exact b
    · rw [upd_ne b]
      by_cases z2 : q = dx
      · subst z2; exact absurd rfl (cc p e2)
      · rw [upd_ne z2]; exact a
  | slf a0 c fs =>
    obtain ⟨hp0, dx, vs, e, e2, e3, e4, n, r⟩ := oa
    subst hp0
    have nd : dx ≠ p := fun z => by subst z; rw [e2] at e; cases e
    have x1 : Ex S (upd S dx (.own p)) := ex_upd e3
    have hs1 : (upd S dx (.own p)) p = none := by rw [upd_ne (Ne.symm nd)]; exact hs
    have x2 : Ex S (upd (upd S dx (.own p)) p (.ins (F.G.ca c) dx vs)) := x1.trans (ex_upd hs1)
    refine key _ x2 (fun a u q => ?_) (fun q a b => ?_) (.slf upd_same (by rw [upd_ne nd, upd_same]) n (r.mono x2)) (others _ x2 fun q a b cc => ?_)
    · by_cases z : a = p
      · subst z; rw [upd_same] at q; rw [e]; exact q
      · rw [upd_ne z] at q
        by_cases z2 : a = dx
        · subst z2; rw [upd_same] at q; rw [e2]; exact q
        · rw [upd_ne z2] at q; exact hh.ex a u q
    · rw [upd_ne (fun z => by subst z; exact a h0)]
      by_cases z2 : q = dx
      · subst z2
        exact absurd e4 a
      · rw [upd_ne z2]; exact b
    · rw [upd_ne b]
      by_cases z2 : q = dx
      · subst z2; exact absurd rfl (cc p e2)
      · rw [upd_ne z2]; exact a
  | _ => exact False.elim oa
end
end Mir
namespace Mir
open PySem PySem.Spec L2
section
variable {F : Fm} {Γ : Gam} {X S : Type} {fx : X → Gam} {fs : S → Gam} {x0 : X} {a b c e : Expr} {es : List Expr} {ma mb mc m mk mv : M D} {mt : M Bool} {pos : Pos} {st : Stmt} {rest body : List Stmt} {G : GG}
theorem Holds.ownUpd {H0 : Hp} {σ : L2.St} {S H : Hp} {i : Nat} {p : Addr} {d d' : D} {o : HO} (h : Holds G H0 σ S H Γ) (hi : Γ[i]? = some (Sl.own d)) (hp : σ[i]? = some (some (.ref p))) (hs : S p = none) (h0 : H0 p = none)
    (hno : ∀ b, H p ≠ some (.own b)) (n : OwnAt G H0 S (upd H p o) p d') : Holds G H0 σ S (upd H p o) (Γ.set i (Sl.own d')) := by
  have hl : i < Γ.length := (List.getElem?_eq_some_iff.mp hi).1
  refine ⟨fun a u q => ?_, fun a u q => ?_, by simpa using h.len, fun j e q => ?_, fun j e q => ?_, fun j k a b r q1 q2 q3 q4 => ?_, fun j a q => h.ref j a (set_ref q (fun _ z => by cases z)).2⟩
  · rw [upd_ne (fun z => by subst z; rw [hs] at q; cases q)]; exact h.ex a u q
  · rw [upd_ne (fun z => by subst z; rw [h0] at q; cases q)]; exact h.e0 a u q
  · by_cases z : i = j
    · subst z; rw [List.getElem?_set_self hl] at q; cases q
    · rw [List.getElem?_set_ne z] at q
      exact h.val j e q
  · by_cases z : i = j
    · subst z
      rw [List.getElem?_set_self hl] at q
      cases q
      exact ⟨p, hp, hs, h0, n⟩
    · rw [List.getElem?_set_ne z] at q
      obtain ⟨r, a, b, c, o'⟩ := h.own j e q
      have ne : r ≠ p := fun y => by subst y; exact z (h.dis i j d e r hi q hp a)
      refine ⟨r, a, b, c, ?_⟩
      cases e with
      | lst ds => obtain ⟨vs, e, r⟩ := o'; exact ⟨vs, by rw [upd_ne ne]; exact e, r⟩
      | dct ds => obtain ⟨vs, e, n, r⟩ := o'; exact ⟨vs, by rw [upd_ne ne]; exact e, n, r⟩
      | dks ds => obtain ⟨vs, e, n, r⟩ := o'; exact ⟨vs, by rw [upd_ne ne]; exact e, n, r⟩
      | obj c fs =>
        obtain ⟨dx, vs, e, e2, e3, e4, n, r⟩ := o'
        exact ⟨dx, vs, by rw [upd_ne ne]; exact e, by rw [upd_ne (fun y => by subst y; exact hno _ e2)]; exact e2, e3, e4, n, r⟩
      | slf a0 c fs =>
        obtain ⟨hp, dx, vs, e, e2, e3, e4, n, r⟩ := o'
        exact ⟨hp, dx, vs, by rw [upd_ne ne]; exact e, by rw [upd_ne (fun y => by subst y; exact hno _ e2)]; exact e2, e3, e4, n, r⟩
      | _ => exact False.elim o'
  · have h1 : ∀ {j : Nat} {a : D}, (Γ.set i (Sl.own d'))[j]? = some (Sl.own a) → ∃ a', Γ[j]? = some (Sl.own a') := fun {j a} q => by
      by_cases z : i = j
      · subst z; exact ⟨d, hi⟩
      · rw [List.getElem?_set_ne z] at q; exact ⟨a, q⟩
    obtain ⟨a', q1⟩ := h1 q1
    obtain ⟨b', q2⟩ := h1 q2
    exact h.dis j k a' b' r q1 q2 q3 q4
theorem Grow.own {S0 H0 S H : Hp} {p : Addr} {o : HO} (g : Grow S0 H0 S H) (hs : S p = none) (h0 : H0 p = none) : Grow S0 H0 S (upd H p o) :=
  ⟨g.s, fun a u q => by rw [upd_ne (fun z => by subst z; rw [h0] at q; cases q)]; exact g.h a u q, fun a u q => by rw [upd_ne (fun z => by subst z; rw [hs] at q; cases q)]; exact g.sub a u q, g.sep⟩
def appM (d : D) (m : M D) : M D := match d with
  | .lst xs => m.bind fun y => if xs.length < sizeLine then .ok (.lst (xs ++ [y])) else .stk
  | _ => .stk
theorem pvar (i : Nat) {x : Str} {p : Pos} (hi : F.N[i]? = some x) (hv : F.V[i]? = some true) (Y : Cx) (hY : F.Xs Y) (hd : (x == ("__debug__" : Str)) = false := by decide) (hcd : (x == ("__classdict__" : Str)) = false := by decide) : PE Y (.Name x p) (tVar i) :=
  pe_var (by rw [F.hN Y hY]; exact hi) (F.vis Y hY i x hv hi) hd hcd
theorem bm_app (i : Nat) {ce : Expr} {d : D} {pos' : Pos} {k : D → Ctl X S} (hΓ : Γ[i]? = some (Sl.own d)) (he : EM F e Γ m) (w : Weak Γ (fx x0)) (hr : ∀ d', BM F rest (Γ.set i (Sl.own d')) ((k d').out fx fs))
    (hp : ∀ t, (∀ Y, F.Xs Y → PE Y e t) → ∀ Y, F.Xs Y → PE Y ce (tBM Y.K "list" rAppend (tVar i) (tCons t tNil)))
    (hs : ∀ X, F.Xs X → swapsWith ce none pos'.line X.env = pure false := by intros; rfl) :
    BM F (.Expr ce pos' :: rest) Γ (((appM d m).bindC x0 k).out fx fs) := by
  obtain ⟨t, q, f⟩ := he
  have hp : ∀ X, F.Xs X → PE X ce (tBM F.G.K "list" rAppend (tVar i) (tCons t tNil)) := fun X hX => by
    have h := hp t q X hX
    rw [F.hK X hX] at h
    exact h
  refine bm_cons (fun X hX => ps_expr (hp X hX) (hs X hX)) fun S0 H0 Dn σ S H g hh po => ?_
  obtain ⟨r, hσ, hS, h0, oa⟩ := hh.own i d hΓ
  cases d with
  | lst xs =>
    obtain ⟨vs, hH, rs⟩ := oa
    refine ⟨.ref r, hσ, .inl ⟨rfl, _, SqL.of hH⟩, ?_⟩
    have pb := opo_bind g hh w po
    refine f H0 σ S H _ hh ((Po.bind pb).imp fun y S1 H1 g1 q1 v rv => ?_)
    obtain ⟨hl, q1⟩ := Po.gate (m := M.ok (D.lst (xs ++ [y]))) q1
    obtain ⟨g2, h2, p2⟩ := q1.ok g1.sub
    have hH1 := g1.h _ _ hH
    have hS1 := g1.sep r ⟨_, hH, fun _ z => by cases z⟩ hS
    refine ⟨r, vs, v, rfl, rfl, hH1, by rw [rs.length]; exact hl, ?_⟩
    exact (hr _).c S0 H0 Dn σ S1 _ (g2.own hS1 h0) (h2.ownUpd (d' := .lst (xs ++ [y])) hΓ hσ hS1 h0 (fun b z => by rw [hH1] at z; cases z) ⟨_, upd_same, (rs.mono g1.s).append (.cons rv .nil)⟩) p2
  | _ => exact False.elim po
def putD {κ : Type} [DecidableEq κ] (kvs : List (κ × D)) (k : κ) (v : D) : List (κ × D) :=
  if (kvs.any fun kv => decide (kv.1 = k)) = true then kvs.map (fun kv => if kv.1 = k then (kv.1, v) else kv) else kvs ++ [(k, v)]
theorem put_rep {S : Hp} {κ : Type} [DecidableEq κ] {k : κ} {v : V} {d : D} (h : Rep G S v d) : ∀ {ks : List (κ × V)} {kvs : List (κ × D)}, ks.map (·.1) = kvs.map (·.1) → Reps G S (ks.map (·.2)) (kvs.map (·.2)) →
    (putK ks k v).map (·.1) = (putD kvs k d).map (·.1) ∧ Reps G S ((putK ks k v).map (·.2)) ((putD kvs k d).map (·.2)) := by
  intro ks kvs n r
  have ha : (ks.any fun kv => decide (kv.1 = k)) = (kvs.any fun kv => decide (kv.1 = k)) := by
    have : ∀ {ks : List (κ × V)} {kvs : List (κ × D)}, ks.map (·.1) = kvs.map (·.1) → (ks.any fun kv => decide (kv.1 = k)) = (kvs.any fun kv => decide (kv.1 = k)) := by
      intro ks
      induction ks with
      | nil => intro kvs n; cases kvs with
        | nil => rfl
        | cons _ _ => cases n
      | cons a ks ih => intro kvs n; cases kvs with
        | nil => cases n
        | cons b kvs =>
          obtain ⟨n1, n2⟩ := List.cons.inj n
          rw [List.any_cons, List.any_cons, ih n2, show a.1 = b.1 from n1]
    exact this n
  unfold putK putD
  rw [ha]
  split
  · have : ∀ {ks : List (κ × V)} {kvs : List (κ × D)}, ks.map (·.1) = kvs.map (·.1) → Reps G S (ks.map (·.2)) (kvs.map (·.2)) →
        (ks.map (fun kv => if kv.1 = k then (kv.1, v) else kv)).map (·.1) = (kvs.map (fun kv => if kv.1 = k then (kv.1, d) else kv)).map (·.1) ∧ Reps G S ((ks.map (fun kv => if kv.1 = k then (kv.1, v) else kv)).map (·.2)) ((kvs.map (fun kv => if kv.1 = k then (kv.1, d) else kv)).map (·.2)) := by
      intro ks
      induction ks with
      | nil => intro kvs n r; cases kvs with
        | nil => exact ⟨rfl, .nil⟩
        | cons _ _ => cases n
      | cons a ks ih => intro kvs n r; cases kvs with
        | nil => cases n
        | cons b kvs =>
          obtain ⟨n1, n2⟩ := List.cons.inj n
          obtain ⟨a1, a2⟩ := a
          obtain ⟨b1, b2⟩ := b
          have n1 : a1 = b1 := n1
          subst n1
          cases r with
          | cons r1 r2 =>
            obtain ⟨i1, i2⟩ := ih n2 r2
            by_cases z : a1 = k
            · simp only [List.map_cons, z, if_true] at i1 i2 ⊢
              exact ⟨by rw [i1], .cons h i2⟩
            · simp only [List.map_cons, z, if_false] at i1 i2 ⊢
              exact ⟨by rw [i1], .cons r1 i2⟩
    exact this n r
  · rw [List.map_append, List.map_append, List.map_append, List.map_append, n]
    exact ⟨rfl, r.append (.cons h .nil)⟩
def setM (d : D) (mv mk : M D) : M D := match d with
  | .dct kvs => mv.bind fun v => mk.bind fun k => match k with
    | .tup ks => (ofOpt (keysOf ks)).bind fun k => if kvs.length < sizeLine then .ok (.dct (putD kvs k v)) else .stk
    | _ => .stk
  | .dks kvs => mv.bind fun v => mk.bind fun k => (ofOpt (keyOf k)).bind fun k => if kvs.length < sizeLine then .ok (.dks (putD kvs k v)) else .stk
  | .lst xs => mv.bind fun v => mk.bind fun k => match k with
    | .int i => (ofOpt (ixN xs.length i)).bind fun j => .ok (.lst (xs.set j v))
    | _ => .stk
  | _ => .stk
theorem PS_or {X : Cx} {e : Stmt} {t u : TS} (h : PS X e t) (k : PS X e u) : PS X e (fun D σ H => t D σ H ∨ u D σ H) :=
  ⟨fun pins s σ H D I q => q.elim (h.run pins s σ H D I) (k.run pins s σ H D I)⟩
theorem rep_key {S : Hp} {v : V} {d : D} {k : Key} (r : Rep G S v d) (h : keyOf d = some k) : v = kV k := by
  cases r <;> first | (cases h; rfl) | cases h
theorem bm_setitem (i : Nat) {x : Str} {d : D} {p p2 : Pos} {ki vi : Expr} {k : D → Ctl X S} (hi : F.N[i]? = some x) (hv : F.V[i]? = some true) (hΓ : Γ[i]? = some (Sl.own d)) (hvv : EM F vi Γ mv) (hk : EM F ki Γ mk) (w : Weak Γ (fx x0)) (hr : ∀ d', BM F rest (Γ.set i (Sl.own d')) ((k d').out fx fs))
    (hd : (x == ("__debug__" : Str)) = false := by decide) (hcd : (x == ("__classdict__" : Str)) = false := by decide)
    (hs : ∀ X, F.Xs X → swapsWith vi (some (.Subscript (.Name x p) ki p2)) pos.line X.env = pure false := by intros; rfl)
    (hs1 : ∀ X, F.Xs X → swapsWithSole [.Subscript (.Name x p) ki p2] vi pos.line X.env = pure false := by intros; rfl) (hw : ∀ X, F.Xs X → swappedStores [.Subscript (.Name x p) ki p2] vi X.env = pure none := by intros; rfl)
    (h1 : ∀ X, F.Xs X → (assignEach [.Subscript (.Name x p) ki p2] X.env).map (·.2) = [assign (.Subscript (.Name x p) ki p2) X.env] := by intros; rfl)
    (ha : ∀ X, F.Xs X → ∀ v, assign (.Subscript (.Name x p) ki p2) X.env v = (do
      let ov ← holding [v] (eval (.Name x p) X.env)
      let iv ← holding [v, ov] (eval ki X.env)
      standAt p2
      holding [v, ov, iv] (setItem ov iv v)
      release [v, ov, iv] []) := by intros; rfl) :
    BM F (.Assign [.Subscript (.Name x p) ki p2] vi pos :: rest) Γ (((setM d mv mk).bindC x0 k).out fx fs) := by
  obtain ⟨tv, pv', ev⟩ := hvv
  obtain ⟨tk, pk, ek⟩ := hk
  have hx : ∀ X, F.Xs X → PE X (.Name x p) (tVar i) := fun X hX => pe_var (by rw [F.hN X hX]; exact hi) (F.vis X hX i x hv hi) hd hcd
  refine bm_cons (t := fun D σ H => tAsg tv (gSub (tVar i) tk rSetL) D σ H ∨ sDPut (tVar i) tk tv D σ H) (fun X hX => PS_or (ps_asg (pv' X hX) (pg_sub (hx X hX) (pk X hX) set_list (ha X hX)) (hs1 X hX) (hw X hX) (h1 X hX)) (ps_dput (by have := F.hu X hX; omega) (hx X hX) (pk X hX) (pv' X hX) (hs X hX))) fun S0 H0 Dn σ S H g hh po => ?_
  obtain ⟨r, hσ, hS, h0, oa⟩ := hh.own i d hΓ
  have pb := opo_bind g hh w po
  cases d with
  | lst xs =>
    obtain ⟨vs, hH, rs⟩ := oa
    refine .inl (ev H0 σ S H _ hh ((Po.bind pb).imp fun y S1 H1 g1 q1 v rv => ⟨.ref r, hσ, ?_⟩))
    refine ek H0 σ S1 H1 _ (hh.grow g1) ((Po.bind q1).imp fun z S2 H2 g2 q2 u ru => ?_)
    have gg := g1.trans g2
    cases z with
    | int kk =>
      obtain ⟨j, hj, q2⟩ := Po.opt (o := ixN xs.length kk) q2
      obtain ⟨g3, h3, p3⟩ := Po.ok g2.sub q2
      cases ru
      have hH1 := gg.h _ _ hH
      have hS1 := gg.sep r ⟨_, hH, fun _ z => by cases z⟩ hS
      refine ⟨r, vs, kk, j, rfl, rfl, hH1, by rw [rs.length]; exact hj, ?_⟩
      exact (hr _).c S0 H0 Dn σ S2 _ (g3.own hS1 h0) (h3.ownUpd (d' := .lst (xs.set j y)) hΓ hσ hS1 h0 (fun b z => by rw [hH1] at z; cases z) ⟨_, upd_same, Reps.set (rv.mono g2.s) j (rs.mono gg.s)⟩) p3
    | _ => exact False.elim q2
  | dct kvs =>
    obtain ⟨ks, hH, n, rs⟩ := oa
    refine .inr (ev H0 σ S H _ hh ((Po.bind pb).imp fun y S1 H1 g1 q1 v rv => ⟨.ref r, hσ, ?_⟩))
    refine ek H0 σ S1 H1 _ (hh.grow g1) ((Po.bind q1).imp fun z S2 H2 g2 q2 u ru => ?_)
    have gg := g1.trans g2
    cases z with
    | tup zs =>
      obtain ⟨kk, hk, q2⟩ := Po.opt (o := keysOf zs) q2
      obtain ⟨hl, q2⟩ := Po.gate (m := M.ok (D.dct (putD kvs kk y))) q2
      obtain ⟨g3, h3, p3⟩ := Po.ok g2.sub q2
      have hH1 := gg.h _ _ hH
      have hS1 := gg.sep r ⟨_, hH, fun _ z => by cases z⟩ hS
      cases ru with
      | tup hz rz =>
        rw [reps_key rz hk] at hz
        have hlen : ks.length = kvs.length := by have := congrArg List.length n; simpa using this
        obtain ⟨n', r'⟩ := put_rep (k := kk) (rv.mono g2.s) n (rs.mono gg.s)
        refine ⟨r, _, rfl, DPut.t hH1 (g2.sub _ _ hz) (by rw [hlen]; exact hl), ?_⟩
        exact (hr _).c S0 H0 Dn σ S2 _ (g3.own hS1 h0) (h3.ownUpd (d' := .dct (putD kvs kk y)) hΓ hσ hS1 h0 (fun b z => by rw [hH1] at z; cases z) ⟨_, upd_same, n', r'⟩) p3
    | _ => exact False.elim q2
  | dks kvs =>
    obtain ⟨ks, hH, n, rs⟩ := oa
    refine .inr (ev H0 σ S H _ hh ((Po.bind pb).imp fun y S1 H1 g1 q1 v rv => ⟨.ref r, hσ, ?_⟩))
    refine ek H0 σ S1 H1 _ (hh.grow g1) ((Po.bind q1).imp fun z S2 H2 g2 q2 u ru => ?_)
    have gg := g1.trans g2
    obtain ⟨kk, hk, q2⟩ := Po.opt (o := keyOf z) q2
    obtain ⟨hl, q2⟩ := Po.gate (m := M.ok (D.dks (putD kvs kk y))) q2
    obtain ⟨g3, h3, p3⟩ := Po.ok g2.sub q2
    have hH1 := gg.h _ _ hH
    have hS1 := gg.sep r ⟨_, hH, fun _ z => by cases z⟩ hS
    have hlen : ks.length = kvs.length := by have := congrArg List.length n; simpa using this
    obtain ⟨n', r'⟩ := put_rep (k := kk) (rv.mono g2.s) n (rs.mono gg.s)
    have eu := rep_key ru hk
    subst eu
    refine ⟨r, _, rfl, DPut.k hH1 (by rw [hlen]; exact hl), ?_⟩
    exact (hr _).c S0 H0 Dn σ S2 _ (g3.own hS1 h0) (h3.ownUpd (d' := .dks (putD kvs kk y)) hΓ hσ hS1 h0 (fun b z => by rw [hH1] at z; cases z) ⟨_, upd_same, n', r'⟩) p3
  | _ => exact False.elim po
def froz (Γ : Gam) : Gam := Γ.map fun s => match s with
  | .own d => .val d
  | s => s
theorem own_rep {H0 S H : Hp} {p : Addr} {d : D} (e : Ex S H) (h : OwnAt G H0 S H p d) : Rep G H (.ref p) d := by
  cases d with
  | lst ds => obtain ⟨vs, e1, r⟩ := h; exact .lst e1 (r.mono e)
  | dct ds => obtain ⟨vs, e1, n, r⟩ := h; exact .dct (.inl e1) n (r.mono e)
  | dks ds => obtain ⟨vs, e1, n, r⟩ := h; exact .dks (.inl e1) n (r.mono e)
  | obj c fs => obtain ⟨dx, vs, e1, e2, _, _, n, r⟩ := h; exact .obj e1 e2 n (r.mono e)
  | slf a c fs => obtain ⟨rfl, dx, vs, e1, e2, _, _, n, r⟩ := h; exact .slf e1 e2 n (r.mono e)
  | _ => exact False.elim h
theorem Holds.froz {H0 : Hp} {σ : L2.St} {S H : Hp} (h : Holds G H0 σ S H Γ) : Holds G H0 σ H H (froz Γ) := by
  refine ⟨Same.refl _, h.e0, by rw [Mir.froz, List.length_map]; exact h.len, fun i d q => ?_, fun i d q => ?_, fun i j d e p q => ?_, fun i a q => ?_⟩
  · unfold Mir.froz at q
    rw [List.getElem?_map] at q
    cases z : Γ[i]? with
    | none => rw [z] at q; cases q
    | some s =>
      rw [z] at q
      cases s with
      | unk => cases q
      | val d' => cases q; obtain ⟨v, a, r⟩ := h.val i _ z; exact ⟨v, a, r.mono h.ex⟩
      | own d' => cases q; obtain ⟨p, a, _, _, o⟩ := h.own i _ z; exact ⟨_, a, own_rep h.ex o⟩
      | ref a => cases q
  · unfold Mir.froz at q
    rw [List.getElem?_map] at q
    cases z : Γ[i]? with
    | none => rw [z] at q; cases q
    | some s => rw [z] at q; cases s <;> cases q
  · unfold Mir.froz at q
    rw [List.getElem?_map] at q
    cases z : Γ[i]? with
    | none => rw [z] at q; cases q
    | some s => rw [z] at q; cases s <;> cases q
  · unfold Mir.froz at q
    rw [List.getElem?_map] at q
    cases z : Γ[i]? with
    | none => rw [z] at q; cases q
    | some s =>
      rw [z] at q
      cases s with
      | ref b => exact ⟨(h.ref i a (z.trans q)).1, (h.ref i a (z.trans q)).2.mono h.ex⟩
      | _ => cases q
theorem Grow.look {S H S' H' : Hp} (e : Ex S H) (g : Grow H H S' H') : Grow S H S H' := ⟨Same.refl _, g.h, e.trans g.h, fun _ _ h => h⟩
def flatM : M D → M D
  | .ok d => if flatD d = true then .ok d else .stk
  | .exn e => if e.fs.isEmpty = true then .exn e else .stk
  | .stk => .stk
theorem rep_flat_any {S S' : Hp} {v : V} {d : D} (h : flatD d = true) (r : Rep G S v d) : Rep G S' v d := by
  cases r <;> first | exact absurd h Bool.false_ne_true | constructor
theorem em_look (he : EM F e (froz Γ) m) : EM F e Γ (flatM m) := by
  obtain ⟨t, p, f⟩ := he
  refine ⟨t, p, fun H0 σ S H Q hh po => f H0 σ H H _ hh.froz ?_⟩
  cases m with
  | stk => exact po
  | exn x =>
    obtain ⟨h, po⟩ := Po.gate (m := (M.exn x : M D)) po
    refine fun cls dd S' H' g r => po cls dd S H' (Grow.look hh.ex g) ⟨r.1, .inl ?_⟩
    have q0 : x.fs = [] := by
      cases q : x.fs with
      | nil => rfl
      | cons _ _ => rw [q] at h; cases h
    exact r.2.elim id fun z => absurd q0 z.1
  | ok d =>
    obtain ⟨h, po⟩ := Po.gate (m := M.ok d) po
    exact fun S' H' g v r => po S H' (Grow.look hh.ex g) v (rep_flat_any h r)
def nofs : M Bool → M Bool
  | .exn _ => .stk
  | m => m
theorem tm_look (he : TM F e (froz Γ) mt) : TM F e Γ (nofs mt) := by
  obtain ⟨t, p, f⟩ := he
  refine ⟨t, p, fun H0 σ S H Q hh po => f H0 σ H H _ hh.froz ?_⟩
  cases mt with
  | stk => exact po
  | exn x => exact False.elim po
  | ok d => exact fun S' H' g => po S H' (Grow.look hh.ex g)
end
end Mir
namespace Mir
open PySem PySem.Spec L2
open PyProof.Rows (envOfC)
theorem all_at {N : List Str} {V : List Bool} {p : Nat → Bool} {i : Nat} {x : Str} (h : ((List.range N.length).all fun i => !(V.getD i false) || p i) = true) (hV : V[i]? = some true) (hN : N[i]? = some x) : p i = true := by
  have hi : i < N.length := (List.getElem?_eq_some_iff.mp hN).1
  have := List.all_eq_true.mp h i (List.mem_range.mpr hi)
  rw [Bool.or_eq_true] at this
  rcases this with z | z
  · rw [List.getD_eq_getElem?_getD, hV] at z; cases z
  · exact z
def visL (N : List Str) (V : List Bool) (kd : List (Str × NameKind)) : Bool :=
  (List.range N.length).all fun i => !(V.getD i false) || match kd.lookup (N.getD i "") with
    | some .local => true | some .cell => true | _ => false
theorem visL_at {N : List Str} {V : List Bool} {kd : List (Str × NameKind)} {i : Nat} {x : Str} (h : visL N V kd = true) (hV : V[i]? = some true) (hN : N[i]? = some x) : kd.lookup x = some .local ∨ kd.lookup x = some .cell := by
  have q := all_at (p := fun i => match kd.lookup (N.getD i "") with | some .local => true | some .cell => true | _ => false) h hV hN
  have ex : N.getD i "" = x := by rw [List.getD_eq_getElem?_getD, hN]; rfl
  rw [ex] at q
  split at q
  · exact .inl (by assumption)
  · exact .inr (by assumption)
  · cases q
def mkF (G : GG) {st : Stmt} {N ps : List Str} (Sc : FnScope N ps (defScope st)) (V : List Bool) (kd : List (Str × NameKind)) (hv : visL N V kd = true) (hkd : (defScope st).names = kd) (k : Nat) (qual : Str) (f : Addr) (cdv : Value) (A : Around) (outer : List Env) (s : Shared) (H : Hp) (E : XK)
    (hr : Room k (A.deeper (envOfC qual (defScope st) s.heap.objs.size f cdv))) : Fm where
  G := G
  W := fun cls d _ H => E cls d H
  N := N
  V := V
  L := V
  kd := kd
  Xs := fun X => X = cxOf (L2.CX G.P G.w) G.P G.w G.K G.mg G.base N qual (defScope st) f cdv A outer s H E
  k := k
  cm := true
  top := true
  fr := false
  ow := none
  hX := by rintro X rfl; exact ⟨rfl, rfl, rfl, rfl, rfl, rfl⟩
  nd := Sc.nd
  hkd := by rintro X rfl; exact hkd
  hki := by rintro X rfl; exact Sc.kind
  vis := by
    rintro X rfl i x hV hn
    have h := visL_at hv hV hn
    rw [← hkd] at h
    exact h.elim .inl fun h => .inr (.inl h)
  loc := by
    rintro X rfl i x hV hn
    have h := visL_at hv hV hn
    rw [← hkd] at h
    exact ⟨h, .inl rfl⟩
  hc := by rintro _ X rfl; rfl
  hr := by rintro _ X rfl; exact hr
  hu := by rintro X rfl; exact hr.units
  tk := by rintro X rfl; exact takes_of rfl rfl rfl rfl
  po := by rintro X rfl; exact passes_of (K := fun e s' => L2.CX G.P G.w outer H s E e s') rfl
  ht := by rintro _ X rfl; exact ⟨rfl, rfl, rfl⟩
theorem starts {N : List Str} {vs : List V} {ds : List D} {G : GG} {S H : Hp} (e : Ex S H) (r : Reps G S vs ds) (hl : vs.length ≤ N.length) : Holds G H (L2.start N vs) S H (ds.map Sl.val ++ List.replicate (N.length - ds.length) Sl.unk) := by
  have l := r.length
  refine ⟨e, Same.refl _, by unfold L2.start; simp only [List.length_append, List.length_map, List.length_replicate]; omega, fun i d q => ?_, fun i d q => ?_, fun i j d e p q => ?_, fun i a q => ?_⟩
  · by_cases hi : i < ds.length
    · rw [List.getElem?_append_left (by simpa using hi), List.getElem?_map] at q
      cases z : ds[i]? with
      | none => rw [z] at q; cases q
      | some d' =>
        rw [z] at q
        cases q
        obtain ⟨v, hv, rv⟩ := r.get z
        refine ⟨v, ?_, rv⟩
        unfold L2.start
        rw [List.getElem?_append_left (by rw [List.length_map]; omega), List.getElem?_map, hv]
        rfl
    · rw [List.getElem?_append_right (by simpa using hi), List.getElem?_replicate] at q
      split at q <;> cases q
  all_goals
    by_cases hi : i < ds.length
    · rw [List.getElem?_append_left (by simpa using hi), List.getElem?_map] at q
      cases z : ds[i]? with
      | none => rw [z] at q; cases q
      | some d' => rw [z] at q; cases q
    · rw [List.getElem?_append_right (by simpa using hi), List.getElem?_replicate] at q
      split at q <;> cases q
theorem fn_ok {G : GG} {name qual : Str} {st : Stmt} {f : Addr} {fd : FuncData} {N ps : List Str} {k : Nat} {m : List D → M D} (V : List Bool) (kd : List (Str × NameKind)) (Fn : Fun G.K name qual st f fd) (Sc : FnScope N ps (defScope st))
    (hv : visL N V kd = true) (hkd : (defScope st).names = kd) (har : ∀ ds, m ds ≠ .stk → ds.length = ps.length)
    (hB : ∀ cdv A outer s H E hr ds, ds.length = ps.length → ∃ c : Ctl Unit Unit, m ds = c.toM ∧ BM (mkF G Sc V kd hv hkd k qual f cdv A outer s H E hr) (defBody st) (ds.map Sl.val ++ List.replicate (N.length - ds.length) Sl.unk) (c.out (fun _ => []) (fun _ => List.replicate N.length Sl.unk))) :
    FnOk G.P G.w G.K G.mg G.base (L2.CX G.P G.w) (k + 1) f fd ps (spM G m) := by
  have hpl : ps.length ≤ N.length := by have := congrArg List.length Sc.pre; rw [List.length_take] at this; omega
  have len : ∀ vs H Q E, spM G m vs H Q E → ∃ ds : List D, vs.length = ds.length ∧ m ds ≠ .stk := fun vs H Q E h => by
    obtain ⟨S, ds, e, r, p⟩ := h
    exact ⟨ds, r.length, fun z => by rw [z] at p; exact p⟩
  refine Fun.okX Fn Sc (fun vs H Q E h => ?_) (fun cdv A outer s H vs Q E hr h => ?_)
  · obtain ⟨ds, h1, h2⟩ := len vs H Q E h
    exact h1.trans (har ds h2)
  · obtain ⟨S, ds, e, r, p⟩ := h
    have hl : ds.length = ps.length := har ds fun z => by rw [z] at p; exact p
    obtain ⟨c, hc, t, ht, d⟩ := hB cdv A outer s H E hr ds hl
    refine ⟨t, ht _ rfl, ?_⟩
    refine d S H _ (L2.start N vs) S H (Grow.refl e) (starts e r (by rw [r.length, hl]; exact hpl)) ?_
    rw [hc] at p
    cases c with
    | stk => exact p
    | exn x u => exact fun cls dd σ S' H' g _ rx => p cls dd S' H' g rx
    | ret d => exact fun v S' H' g rv _ => p S' H' g v rv
    | nx u => exact fun σ S' H' g _ => p S' H' g _ .non
def relN (kd : List (Str × NameKind)) (names : List (Str × NameKind)) : List (Str × NameKind) := names.map fun (n, k) => if (k == NameKind.free && kd.lookup n == some .cell) then (n, .cell) else (n, k)
def visC (N : List Str) (V : List Bool) (kd : List (Str × NameKind)) : Bool :=
  (List.range N.length).all fun i => !(V.getD i false) || match kd.lookup (N.getD i "") with
    | some .local => true | some .cell => true | some .free => true | _ => false
def locC (N : List Str) (L : List Bool) (kd names : List (Str × NameKind)) : Bool :=
  (List.range N.length).all fun i => !(L.getD i false) || decide (kd.lookup (N.getD i "") = some .local) || (decide (kd.lookup (N.getD i "") = some .cell) && decide (names.lookup (N.getD i "") = some .cell))
def dumS (names : List (Str × NameKind)) : Scope := { kind := .function, names := names, isGenerator := false, isCoroutine := false }
theorem blk_of {N : List Str} {sc scope : Scope} {own : List (Str × Nat)} (h : blkC N (dumS sc.names) scope own = true) : BlkOk N sc scope own := by
  obtain ⟨h1, h2, h3, h4, h5⟩ := blkOk_by h
  exact ⟨h1, h2, h3, h4, h5⟩
structure BlkF (F : Fm) (scope : Scope) (own : List (Str × Nat)) (V L : List Bool) (kd : List (Str × NameKind)) : Prop where
  ok : blkC F.N (dumS F.kd) scope own = true
  hkd : relN F.kd scope.names = kd
  hv : visC F.N V kd = true
  hl : locC F.N L kd scope.names = true
  hw0 : ((List.range L.length).all fun i => !(L.getD i false) || own.any fun p => p.2 == i) = true
theorem BlkF.hw {F : Fm} {scope : Scope} {own : List (Str × Nat)} {V L : List Bool} {kd : List (Str × NameKind)} (B : BlkF F scope own V L kd) (i : Nat) (h : L[i]? = some true) : i ∈ own.map (·.2) := by
  have hi : i < L.length := (List.getElem?_eq_some_iff.mp h).1
  have := List.all_eq_true.mp B.hw0 i (List.mem_range.mpr hi)
  rw [Bool.or_eq_true] at this
  rcases this with z | z
  · rw [List.getD_eq_getElem?_getD, h] at z; cases z
  · obtain ⟨p, hp, q⟩ := List.any_eq_true.mp z
    exact List.mem_map.mpr ⟨p, hp, by simpa using q⟩
theorem relS_names {sc scope : Scope} (h : sc.kind = .function) : (relS scope sc).names = relN sc.names scope.names := by
  unfold relS relN
  rw [h]
  refine List.map_congr_left fun y _ => ?_
  obtain ⟨n, k⟩ := y
  simp
def blkF (F : Fm) {scope : Scope} {own : List (Str × Nat)} {V L : List Bool} {kd : List (Str × NameKind)} (B : BlkF F scope own V L kd) : Fm where
  G := F.G
  W := fun _ _ _ _ => False
  N := F.N
  V := V
  L := L
  kd := kd
  Xs := fun Y => ∃ X s H C cl fp, F.Xs X ∧ Y = X.blk s H scope (compEnvC scope cl C X.env) fp
  k := F.k
  cm := F.cm
  top := false
  fr := F.fr
  ow := F.ow
  hX := by rintro Y ⟨X, s, H, C, cl, fp, h, rfl⟩; exact F.hX X h
  nd := F.nd
  hkd := by
    rintro Y ⟨X, s, H, C, cl, fp, h, rfl⟩
    show (relS scope X.env.scope).names = kd
    rw [relS_names (F.hki X h), F.hkd X h]
    exact B.hkd
  hki := by rintro Y ⟨X, s, H, C, cl, fp, h, rfl⟩; exact (show (relS scope X.env.scope).kind = .function from (blkOk_by B.ok).kind)
  vis := by
    rintro Y ⟨X, s, H, C, cl, fp, h, rfl⟩ i x hV hN
    have q := all_at (p := fun i => match kd.lookup (F.N.getD i "") with | some .local => true | some .cell => true | some .free => true | _ => false) B.hv hV hN
    have e : (relS scope X.env.scope).names = kd := by rw [relS_names (F.hki X h), F.hkd X h]; exact B.hkd
    show (relS scope X.env.scope).names.lookup x = _ ∨ (relS scope X.env.scope).names.lookup x = _ ∨ (relS scope X.env.scope).names.lookup x = _
    rw [e]
    have ex : F.N.getD i "" = x := by rw [List.getD_eq_getElem?_getD, hN]; rfl
    rw [ex] at q
    split at q
    · exact .inl (by assumption)
    · exact .inr (.inl (by assumption))
    · exact .inr (.inr (by assumption))
    · cases q
  loc := by
    rintro Y ⟨X, s, H, C, cl, fp, h, rfl⟩ i x hL hN
    have q := all_at (p := fun i => decide (kd.lookup (F.N.getD i "") = some .local) || (decide (kd.lookup (F.N.getD i "") = some .cell) && decide (scope.names.lookup (F.N.getD i "") = some .cell))) (V := L) (by
      have z := B.hl
      unfold locC at z
      simpa [Bool.or_assoc] using z) hL hN
    have e : (relS scope X.env.scope).names = kd := by rw [relS_names (F.hki X h), F.hkd X h]; exact B.hkd
    show ((relS scope X.env.scope).names.lookup x = _ ∨ (relS scope X.env.scope).names.lookup x = _) ∧ ((scope.names.lookup x == some .cell) = true ∨ (relS scope X.env.scope).names.lookup x = _)
    rw [e]
    have ex : F.N.getD i "" = x := by rw [List.getD_eq_getElem?_getD, hN]; rfl
    rw [ex, Bool.or_eq_true, Bool.and_eq_true] at q
    rcases q with q | ⟨q, r⟩
    · have q := of_decide_eq_true q
      exact ⟨.inl q, .inr q⟩
    · have q := of_decide_eq_true q
      have r := of_decide_eq_true r
      exact ⟨.inr q, .inl (by rw [r]; rfl)⟩
  hc := by rintro hc Y ⟨X, s, H, C, cl, fp, h, rfl⟩; exact F.hc hc X h
  hr := by rintro hc Y ⟨X, s, H, C, cl, fp, h, rfl⟩; exact F.hr hc X h
  hu := by rintro Y ⟨X, s, H, C, cl, fp, h, rfl⟩; exact F.hu X h
  tk := by rintro Y _; exact takes0
  po := by rintro Y ⟨X, s, H, C, cl, fp, h, rfl⟩; exact PassesOwn.never
  ht := fun z => by cases z
def IfM (F : Fm) (ifs : List Expr) (Γ : Gam) (m : M Bool) : Prop := ∃ tt, (∀ X, F.Xs X → PTs X ifs tt) ∧ EvT F tt Γ m
theorem ifm_nil {F : Fm} {Γ : Gam} : IfM F [] Γ (.ok true) := ⟨tYes, fun X _ => pts_nil, fun H0 σ S H Q hh p => p.ok hh.ex⟩
theorem ifm_one {F : Fm} {Γ : Gam} {c : Expr} {m : M Bool} (h : TM F c Γ m) : IfM F [c] Γ m := by
  obtain ⟨t, p, q⟩ := h
  exact ⟨t, fun X hX => pts_one (p X hX), q⟩
def cP (F : Fm) (ifs : List Expr) : TT := fun σ H Q => ∃ t, (∀ X, F.Xs X → PTs X ifs t) ∧ t σ H Q
theorem cP_ok {F : Fm} {ifs : List Expr} (X : Cx) (hX : F.Xs X) : PTs X ifs (cP F ifs) := ⟨fun pins s σ H Q I ⟨_, ht, h⟩ => (ht X hX).run pins s σ H Q I h⟩
theorem IfM.c {F : Fm} {Γ : Gam} {ifs : List Expr} {m : M Bool} (h : IfM F ifs Γ m) : EvT F (cP F ifs) Γ m := let ⟨t, p, q⟩ := h; fun H0 σ S H Q hh po => ⟨t, p, q H0 σ S H Q hh po⟩
def cI (F : Fm) (tg iter : Expr) : TI := fun σ H R => ∃ t, (∀ X, F.Xs X → PI X tg iter t) ∧ t σ H R
theorem cI_ok {F : Fm} {tg iter : Expr} (X : Cx) (hX : F.Xs X) : PI X tg iter (cI F tg iter) := ⟨fun pins s σ H R I ⟨_, ht, h⟩ => (ht X hX).run pins s σ H R I h⟩
theorem IM.c {F : Fm} {Γ : Gam} {tg iter : Expr} {m : M (List D)} (h : IM F tg iter Γ m) : IvM F (cI F tg iter) Γ m := let ⟨t, p, q⟩ := h; fun H0 σ S H R hh po => ⟨t, p, q H0 σ S H R hh po⟩
def compL (f : D → M (List D)) : List D → M (List D)
  | [] => .ok []
  | d :: ds => (f d).bind fun xs => (compL f ds).bind fun r => .ok (xs ++ r)
def elM (c : M Bool) (e : M D) : M (List D) := ifM c (e.bind fun y => .ok [y]) (.ok [])
def inM (c : M Bool) (i : M (List D)) (f : D → M (List D)) : M (List D) := ifM c (i.bind fun ds => compL f ds) (.ok [])
def lcM (i : M (List D)) (f : D → M (List D)) : M D := i.bind fun ds => ((compL f ds).nox).bind mkLst
theorem compL_cons {f : D → M (List D)} {d : D} {ds r : List D} (h : compL f (d :: ds) = .ok r) : ∃ xs r', f d = .ok xs ∧ compL f ds = .ok r' ∧ r = xs ++ r' := by
  have h : (f d).bind (fun xs => (compL f ds).bind fun r => .ok (xs ++ r)) = .ok r := h
  cases q : f d with
  | stk => rw [q] at h; cases h
  | exn e => rw [q] at h; cases h
  | ok xs =>
    rw [q] at h
    have h : (compL f ds).bind (fun r => .ok (xs ++ r)) = .ok r := h
    cases q2 : compL f ds with
    | stk => rw [q2] at h; cases h
    | exn e => rw [q2] at h; cases h
    | ok r' => rw [q2] at h; cases h; exact ⟨xs, r', rfl, rfl, rfl⟩
structure Bs (G : GG) (S1 H1 : Hp) (L : Addr) (acc : List D) (S H : Hp) : Prop where
  grow : Grow S1 H1 S H
  at_ : ∃ vs, H L = some (.lst vs) ∧ Reps G S vs acc
  non : S L = none
section
variable {G : GG} {S1 H1 S H : Hp} {L : Addr} {acc : List D}
theorem Bs.start (e : Ex S1 H1) (h : H1 L = none) : Bs G S1 H1 L [] S1 (upd H1 L (.lst [])) := ⟨Grow.newOwn e h, ⟨[], upd_same, .nil⟩, sub_none e h⟩
theorem Bs.step {S' H' : Hp} (b : Bs G S1 H1 L acc S H) (g : Grow S H S' H') : Bs G S1 H1 L acc S' H' := by
  obtain ⟨vs, h, r⟩ := b.at_
  exact ⟨b.grow.trans g, ⟨vs, g.h _ _ h, r.mono g.s⟩, g.sep L ⟨_, h, fun _ z => by cases z⟩ b.non⟩
theorem Bs.add (b : Bs G S1 H1 L acc S H) (hL : H1 L = none) {y : V} {d : D} (r : Rep G S y d) {vs : List V} (h : H L = some (.lst vs)) : Bs G S1 H1 L (acc ++ [d]) S (upd H L (.lst (vs ++ [y]))) := by
  obtain ⟨vs', h', rs⟩ := b.at_
  rw [h] at h'
  cases h'
  exact ⟨b.grow.own b.non hL, ⟨_, upd_same, rs.append (.cons r .nil)⟩, b.non⟩
theorem Bs.len (b : Bs G S1 H1 L acc S H) : ∃ vs, H L = some (.lst vs) ∧ vs.length = acc.length := by
  obtain ⟨vs, h, r⟩ := b.at_
  exact ⟨vs, h, r.length⟩
theorem Bs.done (b : Bs G S1 H1 L acc S H) (hL : H1 L = none) : ∃ S', Grow S1 H1 S' H ∧ Rep G S' (.ref L) (.lst acc) := by
  obtain ⟨vs, h, r⟩ := b.at_
  refine ⟨upd S L (.lst vs), ⟨b.grow.s.trans (ex_upd b.non), b.grow.h, fun a u q => ?_, fun p h1 h2 => ?_⟩, .lst upd_same (r.mono (ex_upd b.non))⟩
  · by_cases z : a = L
    · subst z; rw [upd_same] at q; rw [h]; exact q
    · rw [upd_ne z] at q; exact b.grow.sub a u q
  · rw [upd_ne (fun z => by subst z; exact h1.ne hL)]
    exact b.grow.sep p h1 h2
end
theorem wipe_at {σ : L2.St} {i : Nat} {vs : List Nat} (h : i ∈ vs) : (wipe σ vs)[i]? = if i < σ.length then some none else none := by
  induction vs with
  | nil => cases h
  | cons v vs ih =>
    unfold wipe
    by_cases hv : v = i
    · subst hv
      by_cases hl : v < σ.length
      · rw [List.getElem?_set_self (by rw [wipe_length]; exact hl), if_pos hl]
      · rw [List.getElem?_eq_none (by rw [List.length_set, wipe_length]; omega), if_neg hl]
    · rw [List.getElem?_set_ne hv]
      exact ih ((List.mem_cons.mp h).resolve_left (fun z => hv z.symm))
theorem wipe_eq {σ σ' : L2.St} {vs : List Nat} {L : List Bool} (hl : σ'.length = σ.length) (h : ∀ i : Nat, L[i]? ≠ some true → σ'[i]? = σ[i]?) (hw : ∀ i : Nat, L[i]? = some true → i ∈ vs) : wipe σ' vs = wipe σ vs := by
  refine List.ext_getElem? fun i => ?_
  by_cases hi : i ∈ vs
  · rw [wipe_at hi, wipe_at hi, hl]
  · rw [wipe_out hi, wipe_out hi]
    exact h i fun z => hi (hw i z)
def wipeΓ (Γ : Gam) : List Nat → Gam
  | [] => Γ
  | v :: vs => (wipeΓ Γ vs).set v Sl.unk
theorem wipeΓ_len (Γ : Gam) : ∀ vs, (wipeΓ Γ vs).length = Γ.length
  | [] => rfl
  | v :: vs => by unfold wipeΓ; rw [List.length_set, wipeΓ_len Γ vs]
theorem wipeΓ_get {Γ : Gam} {i : Nat} {s : Sl} (hs : s ≠ .unk) : ∀ {vs : List Nat}, (wipeΓ Γ vs)[i]? = some s → Γ[i]? = some s ∧ i ∉ vs
  | [], h => ⟨h, by simp⟩
  | v :: vs, h => by
    unfold wipeΓ at h
    by_cases hi : v = i
    · subst hi
      by_cases hv : v < (wipeΓ Γ vs).length
      · rw [List.getElem?_set_self hv] at h; exact absurd (Option.some.inj h).symm hs
      · rw [List.getElem?_eq_none (by simpa using hv)] at h; cases h
    · rw [List.getElem?_set_ne hi] at h
      obtain ⟨h1, h2⟩ := wipeΓ_get hs h
      exact ⟨h1, by simp only [List.mem_cons, not_or]; exact ⟨fun e => hi e.symm, h2⟩⟩
theorem Holds.wipe {G : GG} {H0 : Hp} {σ : L2.St} {S H : Hp} {Γ : Gam} (h : Holds G H0 σ S H Γ) (vs : List Nat) : Holds G H0 (L2.wipe σ vs) S H (wipeΓ Γ vs) := by
  refine ⟨h.ex, h.e0, by rw [wipe_length, wipeΓ_len]; exact h.len, fun i d q => ?_, fun i d q => ?_, fun i j d e p a b c c' => ?_, fun i a q => ?_⟩
  · obtain ⟨q, n⟩ := wipeΓ_get (fun z => by cases z) q
    obtain ⟨v, a, b⟩ := h.val i d q
    exact ⟨v, by rw [wipe_out n]; exact a, b⟩
  · obtain ⟨q, n⟩ := wipeΓ_get (fun z => by cases z) q
    obtain ⟨v, a, b⟩ := h.own i d q
    exact ⟨v, by rw [wipe_out n]; exact a, b⟩
  · obtain ⟨a, n1⟩ := wipeΓ_get (fun z => by cases z) a
    obtain ⟨b, n2⟩ := wipeΓ_get (fun z => by cases z) b
    rw [wipe_out n1] at c
    rw [wipe_out n2] at c'
    exact h.dis i j d e p a b c c'
  · obtain ⟨q, n⟩ := wipeΓ_get (fun z => by cases z) q
    rw [wipe_out n]
    exact h.ref i a q
section
variable {F : Fm} {Γ : Gam} {scope : Scope} {own : List (Str × Nat)} {V L : List Bool} {kd : List (Str × NameKind)} {elt tg iter : Expr} {ifs : List Expr} {pos : Pos} {mi : M (List D)} {f : D → M (List D)} {tf : D → Gam → Option Gam}
def TurnM (F : Fm) (Γ : Gam) (tf : D → Gam → Option Gam) (ifs : List Expr) (elt : Expr) (f : D → M (List D)) : Prop :=
  ∀ d, (∃ Γ' mt me, tf d Γ = some Γ' ∧ IfM F ifs Γ' mt ∧ EM F elt Γ' me ∧ f d = elM mt me) ∨ f d = .stk
theorem ev_lc (B : BlkF F scope own V L kd) (hi : IM F tg iter Γ mi) {g : TG} (hg : ∀ H0 σ S H v d Γ Γ' (Q : L2.St → Hp → Prop), Holds F.G H0 σ S H Γ → Rep F.G S v d → tf d Γ = some Γ' → (∀ σ', Holds F.G H0 σ' S H Γ' → σ'.length = σ.length → (∀ i : Nat, L[i]? ≠ some true → σ'[i]? = σ[i]?) → Q σ' H) → g v σ H Q)
    (ht : TurnM (blkF F B) (wipeΓ Γ (own.map (·.2))) tf ifs elt f) : EvM F (tLc (cI F tg iter) g (cP (blkF F B) ifs) (cE (blkF F B) elt) (own.map (·.2))) Γ (lcM mi f) := by
  intro H0 σ S H Q hh po
  refine hi.c H0 σ S H _ hh ((Po.bind po).imp fun ds S1 H1 g1 q1 J hJ => ?_)
  intro A hA
  cases hc : compL f ds with
  | stk => rw [hc] at q1; exact False.elim q1
  | exn e => rw [hc] at q1; exact False.elim q1
  | ok R =>
    rw [hc] at q1
    obtain ⟨hR, q1⟩ := Po.gate (m := M.ok (D.lst R)) q1
    have h1 : Holds F.G H0 σ S1 H1 Γ := hh.grow g1
    refine ⟨fun i m H => m = ds.length - i ∧ i ≤ ds.length ∧ ∃ S acc r, Bs F.G S1 H1 A acc S H ∧ compL f (ds.drop i) = .ok r ∧ acc ++ r = R, ⟨ds.length, by simp, Nat.zero_le _, S1, [], R, Bs.start g1.sub hA, hc, rfl⟩, ?_⟩
    rintro i m H2 ⟨rfl, hi, S2, acc, r, b, hr, hR2⟩
    obtain ⟨stop, go⟩ := hJ S2 H2 b.grow.s b.grow.sub
    by_cases hlt : i < ds.length
    · obtain ⟨hgo, hy⟩ := go i ds[i] (List.getElem?_eq_getElem hlt)
      rw [List.drop_eq_getElem_cons hlt] at hr
      obtain ⟨xs, r', hx, hr', rfl⟩ := compL_cons hr
      refine .inr ⟨hgo, fun H => ∃ S, Bs F.G S1 H1 A (acc ++ xs) S H, fun H' ⟨S', b'⟩ => ⟨ds.length - (i + 1), by omega, rfl, hlt, S', acc ++ xs, r', b', hr', by rw [List.append_assoc]; exact hR2⟩, fun x H3 y => ?_⟩
      obtain ⟨S3, g3, r3⟩ := hy x H3 y
      rcases ht ds[i] with ⟨Γ', mt, me, e1, hif, hel, hf⟩ | z
      · have h3 := ((h1.grow b.grow).grow g3).wipe (own.map (·.2))
        refine hg H0 _ S3 H3 x ds[i] _ Γ' _ h3 r3 e1 fun σ4 h4 l4 k4 => ⟨wipe_eq l4 k4 B.hw |>.trans ?_, ?_⟩
        · refine List.ext_getElem? fun j => ?_
          by_cases hj : j ∈ own.map (·.2)
          · rw [wipe_at hj, wipe_at hj, wipe_length]
          · rw [wipe_out hj]
        rw [hf] at hx
        have b3 := b.step g3
        cases mt with
        | stk => cases hx
        | exn e => cases hx
        | ok c =>
          refine hif.c H0 σ4 S3 H3 _ h4 (fun S5 H5 g5 => ?_)
          cases c with
          | false =>
            cases hx
            refine iteF ?_
            rw [List.append_nil]
            exact ⟨S5, b3.step g5⟩
          | true =>
            cases me with
            | stk => cases hx
            | exn e => cases hx
            | ok y =>
              cases hx
              refine iteT (hel.c H0 σ4 S5 H5 _ (h4.grow g5) (fun S6 H6 g6 v rv => ?_))
              have b6 := (b3.step g5).step g6
              obtain ⟨vs, hvs, hlen⟩ := b6.len
              refine ⟨vs, hvs, ?_, S6, b6.add hA rv hvs⟩
              have : (acc ++ ([y] ++ r')).length = R.length := congrArg List.length hR2
              simp only [List.length_append, List.length_cons, List.length_nil] at this
              omega
      · rw [z] at hx; cases hx
    · have e : i = ds.length := by omega
      subst e
      rw [List.drop_length] at hr
      cases hr
      rw [List.append_nil] at hR2
      subst hR2
      obtain ⟨S', g', rr⟩ := b.done hA
      exact .inl ⟨stop, q1 S' H2 g' _ rr⟩
theorem em_lc (B : BlkF F scope own V L kd) (hcm : F.cm = true) (hi : IM F tg iter Γ mi) (hg : TgM (blkF F B) tg tf) (ht : TurnM (blkF F B) (wipeΓ Γ (own.map (·.2))) tf ifs elt f)
    (hs : ∀ X, F.Xs X → ∀ x, foldedSetIterable iter X.env x = pure x := by intros; rfl) : EM F (.ListComp elt [⟨tg, iter, ifs, 0⟩] scope pos) Γ (lcM mi f) := by
  obtain ⟨g, pg, eg⟩ := hg
  refine ⟨_, fun X hX => ?_, ev_lc B hi (g := g) (fun H0 σ S H v d Γ Γ' Q => eg H0 σ S H v d Γ Γ' Q) ht⟩
  have hn := F.hN X hX
  exact pe_lc (F.hc hcm X hX) (by rw [hn]; exact F.nd) (cI_ok X hX) (by rw [hn]; exact blk_of (by rw [F.hkd X hX]; exact B.ok)) (fun s H C cl fp => pg _ ⟨X, s, H, C, cl, fp, hX, rfl⟩) (fun s H C cl fp => cP_ok _ ⟨X, s, H, C, cl, fp, hX, rfl⟩) (fun s H C cl fp => cE_ok _ ⟨X, s, H, C, cl, fp, hX, rfl⟩) (hs X hX)
theorem gm_lc (i : Nat) {x : Str} {py spos : Pos} (hx : F.N[i]? = some x) (B : BlkF F scope own V L kd) (hcm : F.cm = true) (hi : IM F tg iter Γ mi) (hg : TgM (blkF F B) tg tf) (ht : TurnM (blkF F B) (wipeΓ Γ (own.map (·.2))) tf ifs elt f)
    (hk : F.kd.lookup x = some .local) (hl : (py.line == pos.line) = true) (hl2 : (py.line == spos.line) = true) (ha : (scope.names.any fun (n, k) => n == x && (k == .local || k == .cell)) = false)
    (hs : ∀ X, F.Xs X → ∀ x, foldedSetIterable iter X.env x = pure x := by intros; rfl) : GM F (.Assign [.Name x py] (.ListComp elt [⟨tg, iter, ifs, 0⟩] scope pos) spos) i Γ (lcM mi f) := by
  obtain ⟨g, pg, eg⟩ := hg
  refine ⟨_, fun X hX => ?_, ev_lc B hi (g := g) (fun H0 σ S H v d Γ Γ' Q => eg H0 σ S H v d Γ Γ' Q) ht⟩
  have hn := F.hN X hX
  have hk' : X.env.scope.names.lookup x = some .local := by rw [F.hkd X hX]; exact hk
  exact ps_setLc (F.hc hcm X hX) (by rw [hn]; exact F.nd) (by rw [hn]; exact hx) hk' (sw_true (F.hki X hX) hk' hl ha) (cI_ok X hX) (by rw [hn]; exact blk_of (by rw [F.hkd X hX]; exact B.ok)) (fun s H C cl fp => pg _ ⟨X, s, H, C, cl, fp, hX, rfl⟩) (fun s H C cl fp => cP_ok _ ⟨X, s, H, C, cl, fp, hX, rfl⟩) (fun s H C cl fp => cE_ok _ ⟨X, s, H, C, cl, fp, hX, rfl⟩) (hs X hX)
end
end Mir
namespace Mir
open PySem PySem.Spec L2
open PyProof.Rows (envOfC)
open AutoSeq1 (wpAny_loadPart')
theorem meets_enumerate_newT (l : Addr) (items : Array Value) (n : Nat) (dct : Option Addr) (sl : Array (Option Value)) :
    Meets (Builtin.«enumerate.__new__» ⟨[.type "enumerate", .ref l], []⟩) (fun _ R s => s.heap.get? l = some { cls := .type "tuple", dict := dct, data := .seq items n, slots := sl } ∧
      R (.ok (.ret (.ref (s.heap.push { cls := .type "tuple_iterator", data := .fields #[.ref l, .int 0 0] }).objs.size)))
        { s with heap := (s.heap.push { cls := .type "tuple_iterator", data := .fields #[.ref l, .int 0 0] }).push { cls := .type "enumerate", data := .fields #[.none, .bool false, .ref s.heap.objs.size, rawInt 0, .none, .none] } }) :=
  .of_wp fun prog w A R s h => by
    obtain ⟨hp, g, d, tk, os⟩ := s; obtain ⟨hl, h⟩ := h
    have hsub := sub_enumerate
    have hL : Heap.IsTuple (Shared.heap ⟨hp, g, d, tk, os⟩) l items := ⟨_, hl, rfl, n, rfl⟩
    wp_walk using wpAny_loadPart' hl
    refine wpAny_stack_any fun st => wpAny_pure ?_
    split
    · rename_i c _ _ _ _ _
      cases (c == Value.type "enumerate")
      · wp_walk using wpAny_loadPart' hl, wpAny_pyIter_tuple hL
        exact ⟨_, rfl, h⟩
      · wp_walk using wpAny_loadPart' hl, wpAny_pyIter_tuple hL
        exact ⟨_, rfl, h⟩
    · wp_walk using wpAny_loadPart' hl, wpAny_pyIter_tuple hL
      exact ⟨_, rfl, h⟩
section
variable {prog : Program} {w : World} {A : Around} {E : Value → Shared → Prop} {s : Shared}
theorem call_enumerate_tuple {l : Addr} {items : Array Value} {Q : Value → Shared → Prop} (hL : s.heap.IsTuple l items)
    (h : ∀ h', IsEnum h' (s.heap.objs.size + 1) s.heap.objs.size 0 .none → h'.IsTupleIter s.heap.objs.size l 0 → h'.objs.size = s.heap.objs.size + 2 →
      (∀ b o, s.heap.get? b = some o → h'.get? b = some o) → Q (.ref (s.heap.objs.size + 1)) { s with heap := h' }) :
    wpAny (model prog w) A (call (.type "enumerate") [.ref l]) Q E s := by
  obtain ⟨⟨c, dct, dt, sl⟩, hl, hc, n, hd⟩ := hL
  replace hc : c = .type "tuple" := hc
  replace hd : dt = .seq items n := hd
  subst hc hd
  refine callType_new F.called_enumerate (by decide) (F.typeCall_enumerate_1 _) (F.newCall_enumerate_1 _) (fun obj => F.args_object_init_2 obj _) F.entry_enumerate_new
    (meets_enumerate_newT l items n dct sl) ⟨hl, ?_⟩
  have hz : (s.heap.push { cls := .type "tuple_iterator", data := .fields #[.ref l, .int 0 0] }).objs.size = s.heap.objs.size + 1 := Heap.size_push ..
  show _ ∧ _
  rw [hz]
  have he : IsEnum ((s.heap.push { cls := .type "tuple_iterator", data := .fields #[.ref l, .int 0 0] }).push
      { cls := .type "enumerate", data := .fields #[.none, .bool false, .ref s.heap.objs.size, rawInt 0, .none, .none] }) (s.heap.objs.size + 1) s.heap.objs.size 0 .none := by
    have := Heap.get?_push_size (s.heap.push { cls := .type "tuple_iterator", data := .fields #[.ref l, .int 0 0] })
      (o := { cls := .type "enumerate", data := .fields #[.none, .bool false, .ref s.heap.objs.size, rawInt 0, .none, .none] }) rfl
    rw [hz] at this; exact this
  refine ⟨⟨_, he, rfl⟩, h _ he ⟨_, Heap.get?_push_of_some _ (Heap.get?_push_size _ rfl), rfl, rfl⟩ (by rw [Heap.size_push, hz]) fun b o x => Heap.get?_push_of_some _ (Heap.get?_push_of_some _ x)⟩
end
def IteT (K : PySem.W.Frag) (a : Addr) : It :=
  ⟨fun i H => ∃ (xs : List V) (x : V), SqT K H a xs ∧ xs[i]? = some x, fun i H v H' => ∃ T x, v = .ref T ∧ H T = none ∧ H' = upd H T (.tup [.int (i : Nat), x]) ∧ ∀ xs, SqT K H a xs → xs[i]? = some x, fun i H => ∃ xs : List V, SqT K H a xs ∧ xs.length ≤ i⟩
theorem turn_enumT {P : Program} {w : World} {K : PySem.W.Frag} {elts : List Expr} {kk : Nat} {tpos : Pos} (a e it : Addr) (hai : a ≠ it) (hae : a ≠ e) :
    Turn P w K (.Tuple elts kk tpos) (IteT K a) [e, it] e (fun i h => (∃ old, IsEnum h e it ((i : Nat) : Int) old) ∧ h.IsTupleIter it a i ∧ e ≠ it) where
  mem := by simp
  obj := fun i h st b hb => by
    obtain ⟨⟨old, he⟩, ⟨o, ho, hc, hd⟩, _⟩ := st
    have e' : b = e ∨ b = it := by simpa using hb
    rcases e' with z | z
    · rw [z]; exact ⟨_, he, fun v q => nomatch q⟩
    · rw [z]; exact ⟨o, ho, fun v q => by rw [hd] at q; cases q⟩
  keep := fun i h h' st k => let ⟨⟨old, he⟩, hi, hne⟩ := st; ⟨⟨old, k e (by simp) _ he⟩, hi.at fun o q => k it (by simp) o q, hne⟩
  item := by
    intro X hP hw hK hc i pins s σ H E I hf st hg
    subst hP hw hK
    obtain ⟨⟨old, he⟩, hit, hne⟩ := st
    obtain ⟨xs, x, hq, hx⟩ := hg
    obtain ⟨its, rv, p, hz⟩ := I.tuple hq
    obtain ⟨u, hu, ru⟩ := rv.get hx
    have hel : e < s.heap.objs.size := Heap.lt_size he
    have hil : it < s.heap.objs.size := by obtain ⟨_, q, _⟩ := hit; exact Heap.lt_size q
    have ht : s.heap.IsTuple a its.toArray := p
    have hlt : i < its.toArray.size := by
      have := (List.getElem?_eq_some_iff.mp hu).1
      simpa using this
    refine wpAny_pyNext_enum_itemD (Draws.tuple (show X.A.in1.handled = none from I.ok.hd hc) it a hai its.toArray) he ⟨hit, ht⟩ hlt hne (by simp [hne, Ne.symm hae]) fun x' h' tk hP ho hit' hT hsz hk => ?_
    have ex : x' = u := by
      have h1 : its.toArray[i]? = some x' := hP
      rw [List.getElem?_toArray, hu] at h1
      exact (Option.some.inj h1).symm
    subst ex
    refine ⟨_, rfl, wpAny_letOwnedTupleGo_enum (s := { s with heap := h', toks := tk + 1 }) ho fun h'' he' sb => ?_⟩
    have hT2 : h''.get? s.heap.objs.size = some { cls := .type "tuple", data := .seq #[.int i tk, x'] } := (sb.2 _ (Nat.ne_of_gt hel)).trans hT
    have new : ObjOk X.prog X.w (upd H s.heap.objs.size (.tup [.int (i : Nat), x])) h'' s.heap.objs.size (.tup [.int (i : Nat), x]) :=
      ⟨by show 2 ≤ sizeLine; decide, [.int i tk, x'], .cons ⟨_, rfl⟩ (.cons ru .nil), ⟨_, hT2, rfl, _, rfl⟩⟩
    have I1 : Inv X pins σ (upd H s.heap.objs.size (.tup [.int (i : Nat), x])) { s with heap := h'', toks := tk + 1 } :=
      I.turnedNew (ch := [e, it]) (fun b ob hb q => (sb.2 b (fun z => hb (by simp [z]))).trans (hk b ob (fun z => hb (by simp [z])) (fun z => hb (by simp [z])) q)) hf (Nat.le_refl _) new
    refine ⟨.ref s.heap.objs.size, _, I1, rfl, ⟨_, x, rfl, I.hok.fresh (Nat.le_refl _), rfl, fun ys hy => by rw [I.tuple_inj hy hq]; exact hx⟩, ⟨⟨x', ?_⟩, hit'.1.at fun o q => (sb.2 it (Ne.symm hne)).trans q, hne⟩, fun b hb => ?_⟩
    · have e1 : ((i + 1 : Nat) : Int) = (i : Int) + 1 := by omega
      rw [e1]; exact he'
    · have hb' : b < s.heap.objs.size := by
        have e' : b = e ∨ b = it := by simpa using hb
        rcases e' with z | z
        · rw [z]; exact hel
        · rw [z]; exact hil
      rw [upd_ne (Nat.ne_of_lt hb')]
      exact (hf b hb).1
  done := by
    intro X hP hw hK hc i pins s σ H E I hf st hg
    subst hP hw hK
    obtain ⟨⟨old, he⟩, hit, hne⟩ := st
    obtain ⟨xs, hq, hx⟩ := hg
    obtain ⟨its, rv, p, hz⟩ := I.tuple hq
    obtain ⟨f0, f1, f2, f3, f4, f5⟩ := hf it (by simp)
    have hl := rv.length
    have D := Draws.tuple (prog := X.prog) (w := X.w) (show X.A.in1.handled = none from I.ok.hd hc) it a hai its.toArray
    have hT : s.TypeIs (.ref e) "enumerate" := ⟨_, he, rfl⟩
    unfold pyNext
    refine wpAny_bind (wpAny_attempt (wpAny_callSpecial?_slot (name := Str.ofString "__next__") hT F.slot_enumerate_next
      (wpAny_call_entry F.slot_enumerate_next hT F.entry_enumerate_next ?_ (F.args_enumerate_next_1 _))))
    show wpAny _ _ (field (.ref e) 2 >>= _) _ _ _
    refine wpAny_bind (wpAny_field he rfl (x := .ref it) rfl ?_)
    refine wpAny_bind (wpAny_nextOf_tuple_end (show X.A.in1.handled = none from I.ok.hd hc) hit p (by simp; omega) fun h' x he' hx' => ?_)
    obtain ⟨o, ho, hc'⟩ := hx'
    refine wpAny_bind (wpAny_isInstance (T := "StopIteration") (b := true) ⟨o, ho, hc'⟩ isSubtype_stop ?_)
    exact wpAny_pure ⟨rfl, I.turned (t' := s.toks) (fun b o hb q => he' b o hb q) f0 f1 f3 f4 f5⟩
  self := fun A i s Q E st h => let ⟨⟨_, he⟩, _⟩ := st; wpAny_pyIter_enum he h
def iEnumT (K : PySem.W.Frag) (ta : TA) : TI := fun σ H R => ta σ H fun vs H1 => ∃ a xs, vs = [.ref a] ∧ SqT K H1 a xs ∧ R (IteT K a) H1
theorem pi_enumT {X : Cx} {e : Expr} {ta : TA} {p pos tpos : Pos} {elts : List Expr} {kk : Nat} (hg : Gl X "enumerate") (hm : X.mg "enumerate" = none) (ha : PA X [e] ta) (hs : starEach [e] X.env = [(false, eval e X.env)] := by rfl) :
    PI X (.Tuple elts kk tpos) (.Call (.Name "enumerate" p) [e] [] pos) (iEnumT X.K ta) := by
  refine ⟨fun pins s σ H R I h => ?_⟩
  refine PyProof.Rows.Call_ (ld_blt I hg hm PyProof.Rows.boot_enumerate (PyProof.Rows.callWith_type1 (thn (ha.run pos pins s σ H _ I h) fun us s1 ⟨vs, H1, I1, r1, q1⟩ => ?_) hs rfl))
  obtain ⟨a, xs, ex, hq, q⟩ := q1
  subst ex
  cases r1 with
  | cons r rr =>
    cases rr
    cases r
    obtain ⟨its, rv, p', hz⟩ := I1.tuple hq
    have hal : a < s1.heap.objs.size := p'.lt
    refine call_enumerate_tuple p' fun h' he hit hsz hk => wpAny_pyIter_enum he ?_
    have I2 : Inv X pins σ H1 { s1 with heap := h' } := I1.kept (t' := s1.toks) hk
    refine ⟨s1.heap.objs.size + 1, [s1.heap.objs.size + 1, s1.heap.objs.size], _, _, H1, rfl, I2, turn_enumT a (s1.heap.objs.size + 1) s1.heap.objs.size (Nat.ne_of_lt hal) (Nat.ne_of_lt (Nat.lt_succ_of_lt hal)), ⟨⟨.none, he⟩, hit, Nat.succ_ne_self _⟩, fun b hb => ?_, q⟩
    have e' : b = s1.heap.objs.size + 1 ∨ b = s1.heap.objs.size := by simpa using hb
    have hle : s1.heap.objs.size ≤ b := by
      rcases e' with z | z
      · rw [z]; exact Nat.le_add_right _ _
      · rw [z]; exact Nat.le_refl _
    exact I1.fpOk hle (I1.hok.fresh hle)
def numD (k : Nat) : List D → List D
  | [] => []
  | d :: ds => .tup [.int (k : Int), d] :: numD (k + 1) ds
theorem numD_len : ∀ (ds : List D) (k : Nat), (numD k ds).length = ds.length
  | [], _ => rfl
  | d :: ds, k => congrArg (· + 1) (numD_len ds (k + 1))
theorem numD_get : ∀ (ds : List D) (k i : Nat) {x : D}, (numD k ds)[i]? = some x → ∃ d, ds[i]? = some d ∧ x = .tup [.int ((k + i : Nat) : Int), d]
  | [], _, _, _, h => by cases h
  | d :: ds, k, 0, x, h => ⟨d, rfl, (Option.some.inj h).symm⟩
  | d :: ds, k, i + 1, x, h => by
    obtain ⟨d', h1, h2⟩ := numD_get ds (k + 1) i (x := x) h
    exact ⟨d', h1, by rw [h2, show k + 1 + i = k + (i + 1) by omega]⟩
def pyEnum : List D → M (List D)
  | [.lst xs] => .ok (numD 0 xs)
  | [.tup xs] => .ok (numD 0 xs)
  | _ => .stk
section
variable {F : Fm} {Γ : Gam} {a : Expr} {pos : Pos} {G : GG} {S : Hp}
theorem it_enum {p : Addr} {vs : List V} {ds : List D} (h : SqL G.K S p vs) (r : Reps G S vs ds) : ItSem G (Ite G.K p) S (numD 0 ds) := fun S' H' e1 e2 => by
  have h' := ex_l e2 (ex_l e1 h)
  refine ⟨⟨vs, h', by rw [r.length, numD_len]; exact Nat.le_refl _⟩, fun i x hx => ?_⟩
  obtain ⟨d, hd, rfl⟩ := numD_get ds 0 i hx
  obtain ⟨v, hv, rv⟩ := r.get hd
  refine ⟨⟨vs, v, h', hv⟩, fun x H'' y => ?_⟩
  obtain ⟨T, z, rfl, hT, rfl, y⟩ := y
  have : v = z := Option.some.inj (hv.symm.trans (y vs h'))
  subst this
  have g := Grow.new (o := HO.tup [.int ((0 + i : Nat) : Int), v]) e2 hT
  refine ⟨_, by rw [show (0 + i : Nat) = i by omega] at g; exact g, ?_⟩
  refine .tup (by rw [upd_same, show (0 + i : Nat) = i by omega]) (.cons (.int _) (.cons ((rv.mono e1).mono (ex_upd (sub_none e2 hT))) .nil))
theorem it_enumT {p : Addr} {vs : List V} {ds : List D} (h : SqT G.K S p vs) (r : Reps G S vs ds) : ItSem G (IteT G.K p) S (numD 0 ds) := fun S' H' e1 e2 => by
  have h' := ex_t e2 (ex_t e1 h)
  refine ⟨⟨vs, h', by rw [r.length, numD_len]; exact Nat.le_refl _⟩, fun i x hx => ?_⟩
  obtain ⟨d, hd, rfl⟩ := numD_get ds 0 i hx
  obtain ⟨v, hv, rv⟩ := r.get hd
  refine ⟨⟨vs, v, h', hv⟩, fun x H'' y => ?_⟩
  obtain ⟨T, z, rfl, hT, rfl, y⟩ := y
  have : v = z := Option.some.inj (hv.symm.trans (y vs h'))
  subst this
  have g := Grow.new (o := HO.tup [.int ((0 + i : Nat) : Int), v]) e2 hT
  refine ⟨_, by rw [show (0 + i : Nat) = i by omega] at g; exact g, ?_⟩
  refine .tup (by rw [upd_same, show (0 + i : Nat) = i by omega]) (.cons (.int _) (.cons ((rv.mono e1).mono (ex_upd (sub_none e2 hT))) .nil))
theorem im_enum {p tpos : Pos} {elts : List Expr} {kk : Nat} {m : M D} (hg : F.kd.lookup ("enumerate" : Str) = some NameKind.globalImplicit) (hm : F.G.mg "enumerate" = none) (ha : EM F a Γ m)
    (hst : ∀ X, F.Xs X → starEach [a] X.env = (false, eval a X.env) :: starEach [] X.env := by intros; rfl) (hs : ∀ X, F.Xs X → starEach [a] X.env = [(false, eval a X.env)] := by intros; rfl) :
    IM F (.Tuple elts kk tpos) (.Call (.Name "enumerate" p) [a] [] pos) Γ (b1 pyEnum (mlist [m])) := by
  obtain ⟨t, q, f⟩ := am_cons ha am_nil hst
  obtain ⟨t1, q1, f1⟩ := ha
  refine ⟨fun σ H R => iEnum F.G.K (tCons t1 tNil) σ H R ∨ iEnumT F.G.K (tCons t1 tNil) σ H R, fun X hX => ?_, fun H0 σ S H R hh po => ?_⟩
  · have hg' := F.gl X hX hg
    have hm' : X.mg "enumerate" = none := by rw [(F.hX X hX).2.2.2.1]; exact hm
    have pa : PA X [a] (tCons t1 tNil) := pa_cons (q1 X hX) pa_nil (hst X hX)
    have h := PI_or (pi_enum (elts := elts) (kk := kk) (tpos := tpos) (p := p) (pos := pos) hg' hm' pa (hs X hX)) (pi_enumT hg' hm' pa (hs X hX))
    rw [F.hK X hX] at h
    exact h
  · cases m with
    | stk => exact False.elim po
    | exn e => exact .inl (f1 H0 σ S H _ hh po)
    | ok d =>
      have po : Po F.G (WE F.W σ) S H (fun ds S' H' => ∀ J, ItSem F.G J S' ds → R J H') (pyEnum [d]) := po
      cases d with
      | lst xs =>
        refine .inl (f1 H0 σ S H _ hh fun S1 H1 g v r => ?_)
        cases r with
        | lst h r => exact ⟨_, _, rfl, SqL.of (g.sub _ _ h), po S1 H1 g _ (it_enum (SqL.of h) r)⟩
      | tup xs =>
        refine .inr (f1 H0 σ S H _ hh fun S1 H1 g v r => ?_)
        cases r with
        | tup h r => exact ⟨_, _, rfl, SqT.of (g.sub _ _ h), po S1 H1 g _ (it_enumT (SqT.of h) r)⟩
      | _ => exact False.elim po
end
end Mir
namespace Mir
open PySem PySem.Spec L2
open PyProof.Rows (envOfC)
section
variable {F : Fm} {Γ : Gam} {X S : Type} {fx : X → Gam} {fs : S → Gam} {x0 : X} {pos : Pos} {rest : List Stmt}
theorem ok_lt (X : Cx) (_ : F.Xs X) : OpR X (compareOp .Lt) rLtA := op_ltA
theorem ok_gt (X : Cx) (_ : F.Xs X) : OpR X (compareOp .Gt) (rI0 fun i j => .bl (decide (j < i))) := op_gt
theorem ok_ge (X : Cx) (_ : F.Xs X) : OpR X (compareOp .GtE) (rI0 fun i j => .bl (decide (j ≤ i))) := op_ge
theorem ok_eq (X : Cx) (hX : F.Xs X) : OpR X (compareOp .Eq) (rEqA F.G.K) := by
  have h := op_eq.or (op_eqD (F.hu X hX))
  rw [F.hK X hX] at h
  exact h
theorem ok_ne (X : Cx) (hX : F.Xs X) : OpR X (compareOp .NotEq) (rNeA F.G.K) := by
  have h := op_ne.or (op_neD (F.hu X hX))
  rw [F.hK X hX] at h
  exact h
theorem ok_in (X : Cx) (hX : F.Xs X) : OpR X (compareOp .In) (rIn F.G.K false) := by
  have h := op_in_seq (X := X)
  rw [F.hK X hX] at h
  exact h
theorem ok_ni (X : Cx) (hX : F.Xs X) : OpR X (compareOp .NotIn) (rIn F.G.K true) := by
  have h := op_notIn_seq (X := X)
  rw [F.hK X hX] at h
  exact h
theorem ok_isnot (X : Cx) (_ : F.Xs X) : OpR X (compareOp .IsNot) (fun x y H Q => y = .non ∧ Q (.bl (!decide (x = .non))) H) := op_notN
def un2 {α : Type} (z : α) (d : D) (k : D → D → α) : α := match unD d with
  | some [a, b] => k a b
  | _ => z
theorem un2_at {α : Type} {z : α} {d : D} {k : D → D → α} {a b : D} (h : unD d = some [a, b]) : un2 z d k = k a b := by
  unfold un2
  rw [h]
theorem un2_cs (d : D) : (∃ a b, unD d = some [a, b]) ∨ (∀ {α : Type} (z : α) (k : D → D → α), un2 z d k = z) := by
  by_cases h : ∃ a b, unD d = some [a, b]
  · exact .inl h
  · refine .inr fun z k => ?_
    unfold un2
    split
    · rename_i q
      exact absurd ⟨_, _, q⟩ h
    · rfl
def un3 {α : Type} (z : α) (d : D) (k : D → D → D → α) : α := match unD d with
  | some [a, b, c] => k a b c
  | _ => z
theorem un3_at {α : Type} {z : α} {d : D} {k : D → D → D → α} {a b c : D} (h : unD d = some [a, b, c]) : un3 z d k = k a b c := by
  unfold un3
  rw [h]
theorem un3_cs (d : D) : (∃ a b c, unD d = some [a, b, c]) ∨ (∀ {α : Type} (z : α) (k : D → D → D → α), un3 z d k = z) := by
  by_cases h : ∃ a b c, unD d = some [a, b, c]
  · exact .inl h
  · refine .inr fun z k => ?_
    unfold un3
    split
    · rename_i q
      exact absurd ⟨_, _, _, q⟩ h
    · rfl
def un4 {α : Type} (z : α) (d : D) (k : D → D → D → D → α) : α := match unD d with
  | some [a, b, c, e] => k a b c e
  | _ => z
theorem un4_at {α : Type} {z : α} {d : D} {k : D → D → D → D → α} {a b c e : D} (h : unD d = some [a, b, c, e]) : un4 z d k = k a b c e := by
  unfold un4
  rw [h]
theorem un4_cs (d : D) : (∃ a b c e, unD d = some [a, b, c, e]) ∨ (∀ {α : Type} (z : α) (k : D → D → D → D → α), un4 z d k = z) := by
  by_cases h : ∃ a b c e, unD d = some [a, b, c, e]
  · exact .inl h
  · refine .inr fun z k => ?_
    unfold un4
    split
    · rename_i q
      exact absurd ⟨_, _, _, _, q⟩ h
    · rfl
structure ExcK (G : GG) (x : Str) (c : Nat) : Prop where
  ex : ∃ C, G.xc c = .ref C ∧ PySem.W.excIn G.K C [.type "ValueError", .type "Exception", .type "BaseException", .type "object"] "ValueError.__new__" = true ∧ G.mg x = some (.ref C) ∧ PySem.W.keepIn G.K (.ref C) = true ∧
    PySem.W.subIn G.K (.ref C) (.type "BaseException") = some true ∧ PySem.W.typeIn G.K (.ref C) = some (.type "type")
theorem bm_raise {x m : Str} {c : Nat} {j : Nat} {p p2 p3 : Pos} (K : ExcK F.G x c) (hcm : F.cm = true) (hg : F.kd.lookup x = some .globalImplicit) (w : Weak Γ (fx x0)) (hdb : (x == ("__debug__" : Str)) = false := by decide) :
    BM F [.Raise (some (.Call (.Name x p) [.Constant (.str m) j p2] [] p3)) none pos] Γ ((Ctl.exn ⟨c, []⟩ x0 : Ctl X S).out fx fs) := by
  obtain ⟨C, hc, q, gC, kC, b, t⟩ := K.ex
  refine ⟨fun _ σ H => F.W (.ref C) none σ H, fun Y hY => pss_one ?_, fun S0 H0 Dn σ S H g hh po => ?_⟩
  · obtain ⟨h1, h2, h3, h4, h5, _⟩ := F.hX Y hY
    rw [← h3] at q kC b t
    rw [← h4] at gC
    exact ps_raise (F.hc hcm Y hY) (F.tk Y hY) (pmk_own PySem.F.excBase_ValueError q gC kC (raises_own b t) (F.gl Y hY hg) hdb)
  · exact po (.ref C) none σ S H g ⟨Γ, hh, w⟩ ⟨hc.symm, .inl ⟨rfl, rfl⟩⟩
end
end Mir
namespace Mir
open PySem PySem.Spec L2
open PyProof.Rows (envOfC)
structure Bi (G : GG) : Prop where
  f_len : G.mg "len" = none
  f_int : G.mg "int" = none
  f_range : G.mg "range" = none
  f_list : G.mg "list" = none
  f_isinstance : G.mg "isinstance" = none
  f_enumerate : G.mg "enumerate" = none
  f_sorted : G.mg "sorted" = none
  f_str : G.mg "str" = none
  f_tuple : G.mg "tuple" = none
  f_max : G.mg "max" = none
  f_min : G.mg "min" = none
  f_sum : G.mg "sum" = none
  f_all : G.mg "all" = none
  f_zip : G.mg "zip" = none
  f_iter : G.mg "iter" = none
  f_bool : G.mg "bool" = none
  f_ValueError : G.mg "ValueError" = none
def ar1 (f : D → Ctl Unit Unit) : List D → M D
  | [a] => (f a).toM
  | _ => .stk
def ar2 (f : D → D → Ctl Unit Unit) : List D → M D
  | [a, b] => (f a b).toM
  | _ => .stk
def ar3 (f : D → D → D → Ctl Unit Unit) : List D → M D
  | [a, b, c] => (f a b c).toM
  | _ => .stk
def ar4 (f : D → D → D → D → Ctl Unit Unit) : List D → M D
  | [a, b, c, d] => (f a b c d).toM
  | _ => .stk
def ar5 (f : D → D → D → D → D → Ctl Unit Unit) : List D → M D
  | [a, b, c, d, e] => (f a b c d e).toM
  | _ => .stk
def ar6 (f : D → D → D → D → D → D → Ctl Unit Unit) : List D → M D
  | [a, b, c, d, e, g] => (f a b c d e g).toM
  | _ => .stk
theorem ar1_len {f : D → Ctl Unit Unit} {x : Str} : ∀ ds, ar1 f ds ≠ .stk → ds.length = [x].length
  | [_], _ => rfl
  | [], h => absurd rfl h
  | _ :: _ :: _, h => absurd rfl h
theorem ar2_len {f : D → D → Ctl Unit Unit} {x y : Str} : ∀ ds, ar2 f ds ≠ .stk → ds.length = [x, y].length
  | [_, _], _ => rfl
  | [], h => absurd rfl h
  | [_], h => absurd rfl h
  | _ :: _ :: _ :: _, h => absurd rfl h
theorem ar3_len {f : D → D → D → Ctl Unit Unit} {x y z : Str} : ∀ ds, ar3 f ds ≠ .stk → ds.length = [x, y, z].length
  | [_, _, _], _ => rfl
  | [], h => absurd rfl h
  | [_], h => absurd rfl h
  | [_, _], h => absurd rfl h
  | _ :: _ :: _ :: _ :: _, h => absurd rfl h
theorem ar4_len {f : D → D → D → D → Ctl Unit Unit} {x y z u : Str} : ∀ ds, ar4 f ds ≠ .stk → ds.length = [x, y, z, u].length
  | [_, _, _, _], _ => rfl
  | [], h => absurd rfl h
  | [_], h => absurd rfl h
  | [_, _], h => absurd rfl h
  | [_, _, _], h => absurd rfl h
  | _ :: _ :: _ :: _ :: _ :: _, h => absurd rfl h
theorem ar5_len {f : D → D → D → D → D → Ctl Unit Unit} {x y z u w : Str} : ∀ ds, ar5 f ds ≠ .stk → ds.length = [x, y, z, u, w].length
  | [_, _, _, _, _], _ => rfl
  | [], h => absurd rfl h
  | [_], h => absurd rfl h
  | [_, _], h => absurd rfl h
  | [_, _, _], h => absurd rfl h
  | [_, _, _, _], h => absurd rfl h
  | _ :: _ :: _ :: _ :: _ :: _ :: _, h => absurd rfl h
theorem ar6_len {f : D → D → D → D → D → D → Ctl Unit Unit} {x y z u w v : Str} : ∀ ds, ar6 f ds ≠ .stk → ds.length = [x, y, z, u, w, v].length
  | [_, _, _, _, _, _], _ => rfl
  | [], h => absurd rfl h
  | [_], h => absurd rfl h
  | [_, _], h => absurd rfl h
  | [_, _, _], h => absurd rfl h
  | [_, _, _, _], h => absurd rfl h
  | [_, _, _, _, _], h => absurd rfl h
  | _ :: _ :: _ :: _ :: _ :: _ :: _ :: _, h => absurd rfl h
theorem len1 {ds : List D} {x : Str} (h : ds.length = [x].length) : ∃ a, ds = [a] := match ds, h with | [a], _ => ⟨a, rfl⟩
theorem len2 {ds : List D} {x y : Str} (h : ds.length = [x, y].length) : ∃ a b, ds = [a, b] := match ds, h with | [a, b], _ => ⟨a, b, rfl⟩
theorem len3 {ds : List D} {x y z : Str} (h : ds.length = [x, y, z].length) : ∃ a b c, ds = [a, b, c] := match ds, h with | [a, b, c], _ => ⟨a, b, c, rfl⟩
theorem len4 {ds : List D} {x y z u : Str} (h : ds.length = [x, y, z, u].length) : ∃ a b c d, ds = [a, b, c, d] := match ds, h with | [a, b, c, d], _ => ⟨a, b, c, d, rfl⟩
theorem len5 {ds : List D} {x y z u w : Str} (h : ds.length = [x, y, z, u, w].length) : ∃ a b c d e, ds = [a, b, c, d, e] := match ds, h with | [a, b, c, d, e], _ => ⟨a, b, c, d, e, rfl⟩
theorem len6 {ds : List D} {x y z u w v : Str} (h : ds.length = [x, y, z, u, w, v].length) : ∃ a b c d e f, ds = [a, b, c, d, e, f] := match ds, h with | [a, b, c, d, e, f], _ => ⟨a, b, c, d, e, f, rfl⟩
section
variable {F : Fm} {Γ : Gam} {X S : Type} {fx : X → Gam} {fs : S → Gam} {x0 : X} {pos : Pos} {rest : List Stmt}
def unL3 {α : Type} (z : α) (ds : List D) (k : D → D → D → α) : α := match ds with
  | [a, b, c] => k a b c
  | _ => z
theorem mlist3 {m n l : M D} {ds : List D} (h : mlist [m, n, l] = .ok ds) : ∃ a b c, ds = [a, b, c] := by
  cases m with
  | stk => cases h
  | exn e => cases h
  | ok a => cases n with
    | stk => cases h
    | exn e => cases h
    | ok b => cases l with
      | stk => cases h
      | exn e => cases h
      | ok c => cases h; exact ⟨a, b, c, rfl⟩
theorem reps3 {G : GG} {S : Hp} {vs : List V} {d e g : D} (r : Reps G S vs [d, e, g]) : ∃ v w u, vs = [v, w, u] ∧ Rep G S v d ∧ Rep G S w e ∧ Rep G S u g := by
  cases r with
  | cons h r =>
    obtain ⟨w, u, rfl, a, b⟩ := reps2 r
    exact ⟨_, w, u, rfl, h, a, b⟩
theorem bm_par3 (i j l : Nat) {x y z : Str} {a b c : Expr} {ma mb mc : M D} {px py pz pt : Pos} {kt k2 pt2} {k : D → D → D → Ctl X S} (ha : AM F [a, b, c] Γ (mlist [ma, mb, mc])) (w : Weak Γ (fx x0)) (hr : ∀ u v t, BM F rest (((Γ.set i (Sl.val u)).set j (Sl.val v)).set l (Sl.val t)) ((k u v t).out fx fs))
    (hcm : F.cm = true) (hi : F.N[i]? = some x) (hj : F.N[j]? = some y) (hl : F.N[l]? = some z) (hij : i ≠ j) (hil : i ≠ l) (hjl : j ≠ l) (hx : F.kd.lookup x = some .local) (hy : F.kd.lookup y = some .local) (hz : F.kd.lookup z = some .local)
    (hw : ∀ Y, F.Xs Y → swappedStores [.Tuple [.Name x px, .Name y py, .Name z pz] kt pt] (.Tuple [a, b, c] k2 pt2) Y.env = pure (some [x, y, z]))
    (hs : ∀ Y, F.Xs Y → swapsWithSole [.Tuple [.Name x px, .Name y py, .Name z pz] kt pt] (.Tuple [a, b, c] k2 pt2) pos.line Y.env = pure false := by intros; rfl) :
    BM F (.Assign [.Tuple [.Name x px, .Name y py, .Name z pz] kt pt] (.Tuple [a, b, c] k2 pt2) pos :: rest) Γ (((mlist [ma, mb, mc]).bindC x0 fun ds => unL3 .stk ds k).out fx fs) := by
  obtain ⟨t, p, f⟩ := ha
  refine bm_cons (t := tPar3 i j l t) (fun Y hY => ?_) fun S0 H0 Dn σ S H g hh po => ?_
  · have hn := F.hN Y hY
    have hk := F.hkd Y hY
    exact ps_par3 (F.hc hcm Y hY) (by rw [hn]; exact F.nd) (by rw [hn]; exact hi) (by rw [hn]; exact hj) (by rw [hn]; exact hl) hij hil hjl (by rw [hk]; exact hx) (by rw [hk]; exact hy) (by rw [hk]; exact hz) (p Y hY) (hw Y hY) (hs Y hY)
  · have pb := opo_bind g hh w po
    cases hm : mlist [ma, mb, mc] with
    | stk => rw [hm] at pb; exact False.elim pb
    | exn e => refine f H0 σ S H _ hh ?_; rw [hm] at pb ⊢; exact pb
    | ok ds =>
      obtain ⟨u, v, t', rfl⟩ := mlist3 hm
      rw [hm] at pb
      refine f H0 σ S H _ hh ?_
      rw [hm]
      refine fun S1 H1 gg vs r => ?_
      obtain ⟨g1, h1, p1⟩ := pb S1 H1 gg
      obtain ⟨a', b', c', rfl, ra, rb, rc⟩ := reps3 r
      exact ⟨a', b', c', rfl, (hr u v t').c S0 H0 Dn _ S1 H1 g1 (((h1.set ra).set rb).set rc) p1⟩
def tChain3 (r r' r'' : R2) (ta tb tc td : TE) : TE := fun σ H Q => ta σ H fun x H1 => tb σ H1 fun y H2 => r x y H2 fun z H3 => ∃ k, z = .bl k ∧
  (if k = true then tc σ H3 fun w H4 => r' y w H4 fun z2 H5 => ∃ k2, z2 = .bl k2 ∧ (if k2 = true then td σ H5 fun v H6 => r'' w v H6 Q else Q (.bl false) H5) else Q (.bl false) H3)
theorem pe_chain3 {X : Cx} {a b c d : Expr} {op op' op'' : CmpOp} {r r' r'' : R2} {ta tb tc td : TE} (ho : OpR X (compareOp op) r) (ho' : OpR X (compareOp op') r') (ho'' : OpR X (compareOp op'') r'') (ha : PE X a ta) (hb : PE X b tb) (hc : PE X c tc) (hd : PE X d td)
    (hm : lastMarks [op, op', op''] [b, c, d] = false := by with_unfolding_all rfl) : PE X (.Compare a [op, op', op''] [b, c, d] pos) (tChain3 r r' r'' ta tb tc td) := by
  refine ⟨fun pins s σ H Q I h => ?_⟩
  refine PyProof.Rows.Compare_chain (thn (ha.run pins s σ H _ I h) fun v s1 ⟨x, H1, I1, r1, q1⟩ => PyProof.Rows.chain_link (thn (hb.run pins s1 σ H1 _ I1 q1) fun u s2 ⟨y, H2, I2, r2, q2⟩ =>
    thn (ho pins s2 σ H2 x y v u _ I2 r1 r2 q2) fun d s3 ⟨z, H3, I3, r3, k, e, q3⟩ => ?_)) hm
  subst e
  cases r3
  refine wpAny_truthy_bool ?_
  cases k with
  | false => exact PyProof.Rows.ite_ff ⟨.bl false, H3, I3, rfl, q3⟩
  | true =>
    refine PyProof.Rows.ite_tt (PyProof.Rows.chain_link (thn (hc.run pins s3 σ H3 _ I3 q3) fun w' s4 ⟨z', H4, I4, r4, q4⟩ => thn (ho' pins s4 σ H4 y z' u w' _ I4 r2 r4 q4) fun d' s5 ⟨z2, H5, I5, r5, k2, e2, q5⟩ => ?_))
    subst e2
    cases r5
    refine wpAny_truthy_bool ?_
    cases k2 with
    | false => exact PyProof.Rows.ite_ff ⟨.bl false, H5, I5, rfl, q5⟩
    | true => exact PyProof.Rows.ite_tt (PyProof.Rows.chain_last (thn (hd.run pins s5 σ H5 _ I5 q5) fun w6 s6 ⟨z6, H6, I6, r6, q6⟩ => ho'' pins s6 σ H6 z' z6 w' w6 Q I6 r4 r6 q6))
def chM3 (f g h : D → D → M D) (a b c d : M D) : M D := a.bind fun x => b.bind fun y => (f x y).bind fun z => (isB z).bind fun k => if k = true then c.bind fun w => (g y w).bind fun z2 => (isB z2).bind fun k2 => if k2 = true then d.bind fun v => h w v else .ok (.bl false) else .ok (.bl false)
theorem ev_chain3 {ma mb mc md : M D} {r r' r'' : R2} {f g h : D → D → M D} {ta tb tc td : TE} (hf : RM F r f) (hg : RM F r' g) (hk : RM F r'' h) (ea : EvM F ta Γ ma) (eb : EvM F tb Γ mb) (ec : EvM F tc Γ mc) (ed : EvM F td Γ md) : EvM F (tChain3 r r' r'' ta tb tc td) Γ (chM3 f g h ma mb mc md) := by
  intro H0 σ S H Q hh p
  refine ea H0 σ S H _ hh (Po.bind p |>.imp fun x S1 H1 g1 q1 vx rx => ?_)
  refine eb H0 σ S1 H1 _ (hh.grow g1) (Po.bind q1 |>.imp fun y S2 H2 g2 q2 vy ry => ?_)
  refine hf x y vx vy σ S2 H2 _ g2.sub (rx.mono g2.s) ry (Po.bind q2 |>.imp fun z S3 H3 g3 q3 vz rz => ?_)
  obtain ⟨k, rfl, q3⟩ := isB_of g3.sub rz q3
  refine ⟨k, rfl, ?_⟩
  cases k with
  | false => exact iteF (Po.ok (a := D.bl false) g3.sub q3 _ (.bl _))
  | true =>
    have q3 : Po F.G (WE F.W σ) S3 H3 (KE F Q) (mc.bind fun w => (g y w).bind fun z2 => (isB z2).bind fun k2 => if k2 = true then md.bind fun v => h w v else .ok (.bl false)) := q3
    refine iteT (ec H0 σ S3 H3 _ (hh.grow (g1.trans (g2.trans g3))) (Po.bind q3 |>.imp fun w S4 H4 g4 q4 vw rw' => ?_))
    refine hg y w vy vw σ S4 H4 _ g4.sub ((ry.mono g3.s).mono g4.s) rw' (Po.bind q4 |>.imp fun z S5 H5 g5 q5 vz rz => ?_)
    obtain ⟨k2, rfl, q5⟩ := isB_of g5.sub rz q5
    refine ⟨k2, rfl, ?_⟩
    cases k2 with
    | false => exact iteF (Po.ok (a := D.bl false) g5.sub q5 _ (.bl _))
    | true =>
      have q5 : Po F.G (WE F.W σ) S5 H5 (KE F Q) (md.bind fun v => h w v) := q5
      exact iteT (ed H0 σ S5 H5 _ (hh.grow (g1.trans (g2.trans (g3.trans (g4.trans g5))))) (Po.bind q5 |>.imp fun v S6 H6 g6 q6 vv rv => hk w v vw vv σ S6 H6 Q g6.sub ((rw'.mono g5.s).mono g6.s) rv q6))
theorem em_chain3 {a b c d : Expr} {ma mb mc md : M D} {op op' op'' : CmpOp} {r r' r'' : R2} {f g h : D → D → M D} (ho : ∀ X, F.Xs X → OpR X (compareOp op) r) (hf : RM F r f) (ho' : ∀ X, F.Xs X → OpR X (compareOp op') r') (hg : RM F r' g) (ho'' : ∀ X, F.Xs X → OpR X (compareOp op'') r'') (hk : RM F r'' h)
    (ha : EM F a Γ ma) (hb : EM F b Γ mb) (hc : EM F c Γ mc) (hd : EM F d Γ md) (hm : lastMarks [op, op', op''] [b, c, d] = false := by with_unfolding_all rfl) : EM F (.Compare a [op, op', op''] [b, c, d] pos) Γ (chM3 f g h ma mb mc md) := by
  obtain ⟨ta, pa, ea⟩ := ha
  obtain ⟨tb, pb, eb⟩ := hb
  obtain ⟨tc, pc, ec⟩ := hc
  obtain ⟨td, pd, ed⟩ := hd
  exact ⟨_, fun X hX => pe_chain3 (ho X hX) (ho' X hX) (ho'' X hX) (pa X hX) (pb X hX) (pc X hX) (pd X hX) hm, ev_chain3 hf hg hk ea eb ec ed⟩
end
end Mir
namespace L2
open PySem PySem.Spec PyProof.Rows
def tTurn (ifs : List Expr) (t0 i0 : Expr) (bd nxt : Sem Fin) (it : Value) (env : Env) : Sem Fin := do
  standAt i0.pos
  match ← pyNext it with
  | none => pure (.done .next)
  | some v =>
    letOwnedTupleGo t0 it v
    assign t0 env v
    let mut ok := true
    for c in ifs do
      if ok then ok ← isTrue c env (eval c env)
    if ok then bd else nxt
def bdOut (E i1 : Expr) (k : Nat) (it acc : Value) (env : Env) : Sem Fin := do
  let x ← eval i1 env
  standAt i1.pos
  let x ← foldedSetIterable i1 env x
  let _ ← runOwn (.compStart E (k + 1) (← holding [x] (pyIter x)) acc env) env
  again (.compLoop E k it acc env)
def bdIn (E elt : Expr) (k : Nat) (it acc : Value) (env : Env) : Sem Fin := do
  (do let _ ← call (.builtin "list.append") [acc, ← eval elt env])
  again (.compLoop E k it acc env)
section
variable {elt t0 i0 t1 i1 t2 i2 : Expr} {ifs0 ifs1 ifs2 : List Expr} {scope : Scope} {pos : Pos}
theorem turn3_0 (it acc : Value) (env : Env) : compTurn (.ListComp elt [⟨t0, i0, ifs0, 0⟩, ⟨t1, i1, ifs1, 0⟩, ⟨t2, i2, ifs2, 0⟩] scope pos) 0 it acc env =
    tTurn ifs0 t0 i0 (bdOut (.ListComp elt [⟨t0, i0, ifs0, 0⟩, ⟨t1, i1, ifs1, 0⟩, ⟨t2, i2, ifs2, 0⟩] scope pos) i1 0 it acc env) (again (.compLoop (.ListComp elt [⟨t0, i0, ifs0, 0⟩, ⟨t1, i1, ifs1, 0⟩, ⟨t2, i2, ifs2, 0⟩] scope pos) 0 it acc env)) it env := by rfl
theorem turn3_1 (it acc : Value) (env : Env) : compTurn (.ListComp elt [⟨t0, i0, ifs0, 0⟩, ⟨t1, i1, ifs1, 0⟩, ⟨t2, i2, ifs2, 0⟩] scope pos) 1 it acc env =
    tTurn ifs1 t1 i1 (bdOut (.ListComp elt [⟨t0, i0, ifs0, 0⟩, ⟨t1, i1, ifs1, 0⟩, ⟨t2, i2, ifs2, 0⟩] scope pos) i2 1 it acc env) (again (.compLoop (.ListComp elt [⟨t0, i0, ifs0, 0⟩, ⟨t1, i1, ifs1, 0⟩, ⟨t2, i2, ifs2, 0⟩] scope pos) 1 it acc env)) it env := by rfl
theorem turn3_2 (it acc : Value) (env : Env) : compTurn (.ListComp elt [⟨t0, i0, ifs0, 0⟩, ⟨t1, i1, ifs1, 0⟩, ⟨t2, i2, ifs2, 0⟩] scope pos) 2 it acc env =
    tTurn ifs2 t2 i2 (bdIn (.ListComp elt [⟨t0, i0, ifs0, 0⟩, ⟨t1, i1, ifs1, 0⟩, ⟨t2, i2, ifs2, 0⟩] scope pos) elt 2 it acc env) (again (.compLoop (.ListComp elt [⟨t0, i0, ifs0, 0⟩, ⟨t1, i1, ifs1, 0⟩, ⟨t2, i2, ifs2, 0⟩] scope pos) 2 it acc env)) it env := by rfl
end
section
variable {prog : Program} {w : World} {A : Around} {R : Result → Shared → Prop} {s : Shared} {elt t0 i0 : Expr} {gs : List Comprehension} {ifs0 : List Expr} {scope : Scope} {pos : Pos} {it acc : Value} {env : Env} {k : Nat}
theorem compLoopG {bd : Sem Fin} (hT : compTurn (.ListComp elt gs scope pos) k it acc env = tTurn ifs0 t0 i0 bd (again (.compLoop (.ListComp elt gs scope pos) k it acc env)) it env) (I : Nat → Shared → Prop)
    (turn : ∀ n s, I n s → wpAny (model prog w) A (pyNext it) (fun r s₁ => match r with
      | none => R (.ok .next) s₁
      | some v => wpAny (model prog w) A (letOwnedTupleGo t0 it v) (fun _ s₁' => wpAny (model prog w) A (assign t0 env v) (fun _ s₂ =>
          wpAny (model prog w) A (forIn ifs0 true fun c r => if r = true then do let ok ← isTrue c env (eval c env); pure (ForInStep.yield ok) else pure (ForInStep.yield r)) (fun ok s₃ =>
            if ok = true then wpAny (model prog w) A bd (fun f s' => f = .again (.compLoop (.ListComp elt gs scope pos) k it acc env) ∧ ∃ m, m < n ∧ I m s') (notedBy (model prog w) A env fun e s' => R (.error e) s') s₃
            else ∃ m, m < n ∧ I m s₃) (notedBy (model prog w) A env fun e s' => R (.error e) s') s₂) (notedBy (model prog w) A env fun e s' => R (.error e) s') s₁') (notedBy (model prog w) A env fun e s' => R (.error e) s') s₁) (notedBy (model prog w) A env fun e s' => R (.error e) s') s)
    (n : Nat) (h : I n s) : codeAny (model prog w) A (.compLoop (.ListComp elt gs scope pos) k it acc env) R s := by
  refine codeAny_loop rfl I (fun n s hI => ?_) n h
  show wpAny _ A ((compTurn (.ListComp elt gs scope pos) k it acc env).onRaise (fun x => do noteFrame x env; theTreesLotGoes x)) _ _ s
  refine wpAny_noted ?_
  rw [hT]
  unfold tTurn
  refine wpAny_bind (wpAny_standAt (wpAny_bind (wpAny_mono (turn n s hI) (fun r s₁ h₁ => ?_) fun _ _ h' => h')))
  cases r with
  | none => exact wpAny_pure h₁
  | some v =>
    refine wpAny_bind (wpAny_mono h₁ (fun _ s₁' h₁' => ?_) fun _ _ h' => h')
    refine wpAny_bind (wpAny_mono h₁' (fun _ s₂ h₂ => wpAny_bind (wpAny_mono h₂ (fun ok s₃ h₃ => ?_) fun _ _ h' => h')) fun _ _ h' => h')
    cases ok with
    | false => exact wpAny_pure ⟨rfl, h₃⟩
    | true =>
      refine wpAny_mono h₃ (fun f s₄ h₄ => ?_) fun _ _ h' => h'
      obtain ⟨rfl, h₄⟩ := h₄
      exact ⟨rfl, h₄⟩
theorem compStartG {E : Expr} {g : Comprehension} (hE : E = .ListComp elt gs scope pos) (hk : gs[k]? = some g) (ha : (g.is_async != 0) = false) (h0 : codeAny (model prog w) A (.compLoop E k it acc env) R s)
    (h : wpAny (model prog w) A (pyIter it) (fun it' s' => codeAny (model prog w) A (.compLoop E k it' acc env) R s')
      (notedBy (model prog w) A env fun x s' => R (.error x) s') s) :
    codeAny (model prog w) A (.compStart E k it acc env) R s := by
  subst hE
  refine codeAny_of_tree ?_
  show wpAny _ _ ((compStart (.ListComp elt gs scope pos) k it acc env).onRaise (fun x => do noteFrame x env; standAt theWindowsPlace)) _ _ s
  refine wpAny_notedAt ?_
  unfold compStart
  rw [show clausesOf (.ListComp elt gs scope pos) = gs from rfl, hk]
  simp only [Option.elim, ha]
  show wpAny _ _ (ask >>= _) _ _ s
  refine wpAny_bind (wpAny_askSetting (wpAny_ite ?_))
  split
  · first
      | exact wpAny_bind (wpAny_pure (wpAny_pure (And.intro rfl h0)))
      | exact wpAny_pure (And.intro rfl h0)
  · first
      | exact wpAny_bind (wpAny_rule (wpAny_bind (wpAny_standAt (wpAny_bind (wpAny_mono h (fun it' s' h' => wpAny_pure (And.intro rfl h')) fun _ _ x => x)))))
      | (refine wpAny_bind (wpAny_rule ?_); show wpAny _ _ (standAt g.iter.pos >>= _) _ _ s; exact wpAny_bind (wpAny_standAt (wpAny_bind (wpAny_mono h (fun it' s' h' => wpAny_pure (And.intro rfl h')) fun _ _ x => x))))
end
abbrev TB := St → Hp → (Hp → Prop) → Prop
def PBd (Y : Cx) (bd : Sem Fin) (c : Code) (vs : List Nat) (tb : TB) : Prop :=
  ∀ pins s σ H (Nx : Hp → Prop), Inv Y pins σ H s → tb σ H Nx → wpAny (model Y.prog Y.w) Y.A bd (fun f s' => f = .again c ∧ ∃ H', Inv Y pins (wipe σ vs) H' s' ∧ Nx H') (fun _ _ => False) s
def tEl (te : TE) (D : Addr) : TB := fun σ H Nx => te σ H fun y H7 => ∃ acc, H7 D = some (.lst acc) ∧ acc.length < sizeLine ∧ Nx (upd H7 D (.lst (acc ++ [y])))
def tIn (wi : TI) (g : TG) (tt : TT) (tb : TB) (vs : List Nat) : TB := fun σ H Nx => wi σ H fun J H1 => ∃ W : Nat → Nat → Hp → Prop, (∃ m, W 0 m H1) ∧ ∀ j k H, W j k H →
  (J.stop j H ∧ Nx H) ∨ (J.go j H ∧ ∃ Nx1 : Hp → Prop, (∀ H', Nx1 H' → ∃ k', k' < k ∧ W (j + 1) k' H') ∧ ∀ x H', J.yld j H x H' → g x (wipe σ vs) H' fun σ3 H5 => wipe σ3 vs = wipe σ vs ∧ tt σ3 H5 fun b H6 =>
    if b = true then tb σ3 H6 Nx1 else Nx1 H6)
def tLcN (wi : TI) (g : TG) (tt : TT) (tb : Addr → TB) (vs : List Nat) : TE := fun σ H Q => wi σ H fun J H1 => ∀ D, H1 D = none → ∃ W : Nat → Nat → Hp → Prop, (∃ m, W 0 m (upd H1 D (.lst []))) ∧ ∀ i m H, W i m H →
  (J.stop i H ∧ Q (.ref D) H) ∨ (J.go i H ∧ ∃ Nx : Hp → Prop, (∀ H', Nx H' → ∃ m', m' < m ∧ W (i + 1) m' H') ∧ ∀ x H', J.yld i H x H' → g x (wipe σ vs) H' fun σ2 H2 => wipe σ2 vs = wipe σ vs ∧ tt σ2 H2 fun b H3 =>
    if b = true then tb D σ2 H3 Nx else Nx H3)
section
variable {X : Cx}
theorem pbd_in {E elt : Expr} {k : Nat} {it : Value} {D : Addr} {s : Shared} {H : Hp} {scope : Scope} {ce : Env} {fp : List Addr} {te : TE} (he : PE (X.blk s H scope ce fp) elt te) : PBd (X.blk s H scope ce fp) (bdIn E elt k it (.ref D) ce) (.compLoop E k it (.ref D) ce) [] (tEl te D) := by
  intro pins s1 σ H1 Nx I h
  unfold bdIn
  refine wpAny_bind (wpAny_bind (thnF (he.run _ s1 σ H1 _ I h) fun z s17 ⟨yv, H17, I17, r17, acc, hD17, hz17, nx⟩ => ?_))
  refine wpAny_bind (app_ok (X := X.blk s H scope ce fp) I17 hD17 hz17 r17 fun s18 I18 => ?_)
  exact wpAny_pure (wpAny_pure ⟨rfl, _, I18, nx⟩)
theorem pbd_out {E elt : Expr} {gs : List Comprehension} {pos : Pos} {k : Nat} {it : Value} {D : Addr} {s3 : Shared} {H3 : Hp} {scope sc : Scope} {ce : Env} {fp0 : List Addr} {tg1 i1 : Expr} {ifs1 : List Expr} {bd1 : Value → Sem Fin} {vs1 vs2 : List Nat} {wi1 : TI} {g1 : TG} {tt1 : TT} {tb1 : TB}
    (hE : E = .ListComp elt gs sc pos) (hk : gs[k + 1]? = some ⟨tg1, i1, ifs1, 0⟩) (hc : X.calm = true)
    (hT : ∀ it, compTurn E (k + 1) it (.ref D) ce = tTurn ifs1 tg1 i1 (bd1 it) (again (.compLoop E (k + 1) it (.ref D) ce)) it ce)
    (hv : ∀ i ∈ vs2, i ∈ vs1) (hs1 : ∀ x, foldedSetIterable i1 ce x = pure x) (pi1 : PI (X.blk s3 H3 scope ce fp0) tg1 i1 wi1) (pg1 : PG (X.blk s3 H3 scope ce fp0) tg1 g1) (pt1 : PTs (X.blk s3 H3 scope ce fp0) ifs1 tt1)
    (hb : ∀ it, PBd (X.blk s3 H3 scope ce fp0) (bd1 it) (.compLoop E (k + 1) it (.ref D) ce) vs2 tb1) :
    PBd (X.blk s3 H3 scope ce fp0) (bdOut E i1 k it (.ref D) ce) (.compLoop E k it (.ref D) ce) vs1 (tIn wi1 g1 tt1 tb1 vs1) := by
  subst hE
  intro pins s9 σ8 H9 Nx I9 q9
  unfold bdOut
  refine wpAny_bind (thnF (pi1.run _ s9 σ8 H9 _ I9 q9) fun xv s10 hx => ?_)
  refine wpAny_bind (wpAny_standAt (wpAny_bind (wpAny_of_eq (hs1 xv) (wpAny_bind (wpAny_holding (thnF hx fun itv s11 h11 => ?_))))))
  obtain ⟨it1, fp1, tn1, J1, H11, e1, I11, T1, st11, f11, W1, ⟨m1, w1⟩, turn1⟩ := h11
  subst e1
  refine wpAny_bind (wpAny_runOwn ?_)
  rw [Around.mark_none]
  have stat1 : ∀ {H' : Hp}, (∀ b ∈ fp1, H' b = none) → ∀ b ∈ fp1, FpOk (X.blk s3 H3 scope ce fp0) pins H' b := fun hn b hb => ⟨hn b hb, (f11 b hb).2⟩
  have loop1 : codeAny (model X.prog X.w) X.A (.compLoop (.ListComp elt gs sc pos) (k + 1) (.ref it1) (.ref D) ce)
      (fun r s' => match r with
        | .ok _ => ∃ H', Inv (X.blk s3 H3 scope ce fp0) pins (wipe σ8 vs1) H' s' ∧ Nx H'
        | .error _ => False) s11 := by
    refine compLoopG (hT (.ref it1)) (fun n s' => ∃ j H', Inv (X.blk s3 H3 scope ce fp0) pins (wipe σ8 vs1) H' s' ∧ tn1 j s'.heap ∧ (∀ b ∈ fp1, H' b = none) ∧ W1 j n H') ?_ m1 ⟨0, H11, I11.weak (wipe_length _ _) (fun j v e => (wipe_some e).1), st11, fun b hb => (f11 b hb).1, w1⟩
    rintro n s12 ⟨j, H12, I12, st12, n12, w12⟩
    rcases turn1 j n H12 w12 with ⟨stop1, nx1⟩ | ⟨go1, Nx1, hNx1, step1⟩
    · refine thnF (T1.done (X.blk s3 H3 scope ce fp0) rfl rfl rfl hc j _ s12 (wipe σ8 vs1) H12 (fun _ _ => False) I12 (stat1 n12) st12 stop1) fun r s13 ⟨hr, I13⟩ => ?_
      subst hr
      exact ⟨_, I13, nx1⟩
    · refine thnF (T1.item (X.blk s3 H3 scope ce fp0) rfl rfl rfl hc j _ s12 (wipe σ8 vs1) H12 (fun _ _ => False) I12 (stat1 n12) st12 go1) fun r s13 ⟨u1, hr, h13⟩ => ?_
      subst hr
      refine thnF h13 fun _ s14 ⟨x1, H14, I14, r14, y14, st14, n14⟩ => ?_
      have I14' := I14.pinned (stat1 n14) (T1.obj _ _ st14)
      refine thnF (pg1.run _ s14 (wipe σ8 vs1) H14 x1 u1 _ I14' r14 (step1 x1 H14 y14)) fun _ s15 ⟨σ15, H15, I15, hw15, q15⟩ => ?_
      refine thnF (pt1.run _ s15 σ15 H15 _ I15 q15) fun b1 s16 ⟨H16, I16, q16⟩ => ?_
      have fin1 : ∀ {σ9 : St} {s' : Shared} {H' : Hp}, Inv (X.blk s3 H3 scope ce fp0) (pins ++ pinsAt fp1 s14.heap) σ9 H' s' → (wipe σ8 vs1).length = σ9.length → (∀ (j : Nat) v, (wipe σ8 vs1)[j]? = some (some v) → σ9[j]? = some (some v)) → Nx1 H' → ∃ m, m < n ∧ ∃ j H', Inv (X.blk s3 H3 scope ce fp0) pins (wipe σ8 vs1) H' s' ∧ tn1 j s'.heap ∧ (∀ b ∈ fp1, H' b = none) ∧ W1 j m H' := fun {σ9 s' H'} I' hl hk nx => by
        obtain ⟨m', hm, w'⟩ := hNx1 H' nx
        have pin' : ∀ b ∈ fp1, ∀ o, s14.heap.get? b = some o → s'.heap.get? b = some o ∧ H' b = none := fun b hb o e =>
          let z := I'.pin (b, o) (List.mem_append_right _ (List.mem_append_right _ (mem_pinsAt hb e)))
          ⟨z.1, z.2.1⟩
        refine ⟨m', hm, j + 1, H', I'.unpinned.weak hl hk, T1.keep _ _ _ st14 fun b hb o e => (pin' b hb o e).1, fun b hb => ?_, w'⟩
        obtain ⟨o, e, _⟩ := T1.obj _ _ st14 b hb
        exact (pin' b hb o e).2
      have hl15 : (wipe σ8 vs1).length = σ15.length := by rw [← hw15, wipe_length]
      have hk15 : ∀ (j : Nat) v, (wipe σ8 vs1)[j]? = some (some v) → σ15[j]? = some (some v) := fun j v e => by rw [← hw15] at e; exact (wipe_some e).1
      cases b1 with
      | false =>
        simp only [Bool.false_eq_true, if_false] at q16 ⊢
        exact fin1 I16 hl15 hk15 q16
      | true =>
        simp only [if_true] at q16 ⊢
        refine thnF (hb (.ref it1) _ s16 σ15 H16 _ I16 q16) fun f s17 ⟨hf, H17, I17, nx⟩ => ?_
        refine ⟨hf, fin1 I17 (hl15.trans (wipe_length σ15 vs2).symm) (fun j v e => ?_) nx⟩
        have e0 := e
        rw [← hw15] at e0
        obtain ⟨e1, e2⟩ := wipe_some e0
        rw [wipe_out fun z => e2 (hv j z)]
        exact e1
  refine codeAny_mono (compStartG rfl hk rfl loop1 (T1.self X.A 0 _ _ _ st11 loop1)) fun r s' hr => ?_
  cases r with
  | ok f =>
    first
      | exact wpAny_pure ⟨rfl, hr⟩
      | exact wpAny_bind (wpAny_pure (wpAny_pure ⟨rfl, hr⟩))
  | error e => exact hr.elim
end
section
variable {X : Cx}
abbrev BdFam (X : Cx) (scope : Scope) (bd : Addr → Value → Env → Sem Fin) (E : Expr) (vs : List Nat) (tb : Addr → TB) : Prop :=
  ∀ (s : Shared) (H : Hp) (C : Addr) (cl : List (Str × Addr)) (fp : List Addr) (D : Addr) (it : Value), PBd (X.blk s H scope (compEnvC scope cl C X.env) fp) (bd D it (compEnvC scope cl C X.env)) (.compLoop E 0 it (.ref D) (compEnvC scope cl C X.env)) vs (tb D)
theorem lcG_core {pins : List (Addr × Obj)} {s : Shared} {σ : St} {H : Hp} {Q : VK} {elt tg iter : Expr} {ifs : List Expr} {rest : List Comprehension} {scope : Scope} {own : List (Str × Nat)} {vs1 : List Nat} {pos pos' : Pos} {wi : TI} {g : TG} {tt : TT} {tb : Addr → TB} {bd : Addr → Value → Env → Sem Fin} {use : Option (Value → Sem Unit)} {Qf : Value → Shared → Prop}
    (hT : ∀ D it env, compTurn (.ListComp elt (⟨tg, iter, ifs, 0⟩ :: rest) scope pos) 0 it (.ref D) env = tTurn ifs tg iter (bd D it env) (again (.compLoop (.ListComp elt (⟨tg, iter, ifs, 0⟩ :: rest) scope pos) 0 it (.ref D) env)) it env)
    (hc : X.calm = true) (hN : X.N.Nodup) (I : Inv X pins σ H s) (hi : PI X tg iter wi) (ok : BlkOk X.N X.env.scope scope own) (hv : ∀ i ∈ vs1, i ∈ own.map (·.2))
    (hg : ∀ (s : Shared) (H : Hp) (C : Addr) (cl : List (Str × Addr)) (fp : List Addr), PG (X.blk s H scope (compEnvC scope cl C X.env) fp) tg g) (ht : ∀ (s : Shared) (H : Hp) (C : Addr) (cl : List (Str × Addr)) (fp : List Addr), PTs (X.blk s H scope (compEnvC scope cl C X.env) fp) ifs tt)
    (hb : BdFam X scope bd (.ListComp elt (⟨tg, iter, ifs, 0⟩ :: rest) scope pos) vs1 tb) (hs : ∀ x, foldedSetIterable iter X.env x = pure x)
    (h : tLcN wi g tt tb (own.map (·.2)) σ H Q)
    (hRR : ∀ D C s' m H', Inv X pins σ H' s' → Q (.ref D) H' → s'.heap.Ns C m → FpOk X pins H' C → compPost (model X.prog X.w) X.A X.xe use Qf (.ref D) C (.ok .next) s') :
    wpAny (model X.prog X.w) X.A (comprehension (.ListComp elt (⟨tg, iter, ifs, 0⟩ :: rest) scope pos) scope X.env pos' (newList []) false (eval iter X.env) use) Qf X.xe s := by
  have hfree : ∀ y ∈ scope.names, y.2 = .free → ∃ c, X.env.cells.lookup y.1 = some c := fun y hy e => by
    rcases ok.free y hy e with k | k
    · exact I.ok.has _ (.inl k)
    · exact I.ok.has _ (.inr k)
  refine wpAny_comprehension_free (use := use) rfl hs (closure_ok hfree) ok.kind (fun y hy e => by rw [ok.uniq y hy, e])
    (thn (hi.run pins s σ H _ I h) fun xv s1 hx => thn hx fun itv s2 h2 => ?_)
  obtain ⟨it, fp, tn, J, H2, e, I2, T, st2, f2, q⟩ := h2
  subst e
  refine wpAny_newObj_type (newEnv_comp ?_) (by show 0 ≤ sizeLine; decide)
  generalize hD : s2.heap.objs.size = D
  have hDn : H2 D = none := I2.hok.fresh (Nat.le_of_eq hD)
  obtain ⟨W, ⟨m0, w0⟩, turn⟩ := q D hDn
  generalize hs3 : ({ s2 with heap := s2.heap.push { cls := .type "list", data := .seq ([] : List Value).toArray } } : Shared) = s3
  have I3 : Inv X pins σ (upd H2 D (.lst [])) s3 := by
    rw [← hs3]
    refine I2.laid (t' := s2.toks) (fun b o e => Heap.get?_push_of_some _ e) (Nat.le_of_eq hD) ⟨Nat.zero_le _, [], 0, .nil, ?_⟩
    rw [← hD]
    exact Heap.get?_push_size _ rfl
  have h3 : s3.heap = s2.heap.push { cls := .type "list", data := .seq ([] : List Value).toArray } := by rw [← hs3]
  have sz : ∀ b ∈ fp, b < s2.heap.objs.size := fun b hb => by
    obtain ⟨o, e, _⟩ := T.obj _ _ st2 b hb
    exact Heap.lt_size e
  have f3 : ∀ b ∈ fp, FpOk X pins (upd H2 D (.lst [])) b ∧ b < s3.heap.objs.size := fun b hb => by
    have hlt := sz b hb
    refine ⟨⟨?_, (f2 b hb).2⟩, by rw [h3, Heap.size_push]; exact Nat.lt_succ_of_lt hlt⟩
    rw [upd_ne (by rw [← hD]; exact Nat.ne_of_lt hlt)]
    exact (f2 b hb).1
  have st3 : tn 0 s3.heap := T.keep _ _ _ st2 fun b _ o e => by rw [h3]; exact Heap.get?_push_of_some _ e
  have I4 := block_start I3 ok hN f3
  have pg := hg s3 (upd H2 D (.lst [])) s3.heap.objs.size (cellsFrom (s3.heap.objs.size + 1) scope.names (cloFrom X.env.cells scope.names [])) fp
  have pt := ht s3 (upd H2 D (.lst [])) s3.heap.objs.size (cellsFrom (s3.heap.objs.size + 1) scope.names (cloFrom X.env.cells scope.names [])) fp
  have pb := hb s3 (upd H2 D (.lst [])) s3.heap.objs.size (cellsFrom (s3.heap.objs.size + 1) scope.names (cloFrom X.env.cells scope.names [])) fp D (.ref it)
  have hT := hT D (.ref it)
  show codeAny _ _ (.compStart (.ListComp elt (⟨tg, iter, ifs, 0⟩ :: rest) scope pos) 0 (.ref it) (.ref D) (compEnvC scope (cellsFrom (s3.heap.objs.size + 1) scope.names (cloFrom X.env.cells scope.names [])) s3.heap.objs.size X.env)) (compPost (model X.prog X.w) X.A X.xe use Qf (.ref D) s3.heap.objs.size) { s3 with heap := pushCells (s3.heap.push { cls := .type "dict", data := .dict #[] }) scope.names }
  have nfp : ∀ b ∈ fp, (upd H2 D (.lst [])) b = none := fun b hb => (f3 b hb).1.1
  generalize hce : compEnvC scope (cellsFrom (s3.heap.objs.size + 1) scope.names (cloFrom X.env.cells scope.names [])) s3.heap.objs.size X.env = ce at I4 pg pt pb ⊢
  have hT := hT ce
  have cL : ce.locals = s3.heap.objs.size := by subst hce; rfl
  generalize hH3 : upd H2 D (.lst []) = H3 at I3 I4 pg pt pb w0 nfp f3
  generalize hs4 : ({ s3 with heap := pushCells (s3.heap.push { cls := .type "dict", data := .dict #[] }) scope.names } : Shared) = s4 at I4 ⊢
  have st4 : tn 0 s4.heap := T.keep _ _ _ st3 fun b _ o e => by rw [← hs4]; exact pushCells_keeps _ _ _ _ (Heap.get?_push_of_some _ e)
  have stat : ∀ {σ' : St} {H' : Hp} {s' : Shared}, Inv (X.blk s3 H3 scope ce fp) [] σ' H' s' → (∀ b ∈ fp, H' b = none) → ∀ b ∈ fp, FpOk (X.blk s3 H3 scope ce fp) [] H' b := fun {σ' H' s'} I' hn b hb =>
    ⟨hn b hb, (I'.ok.exf b hb).1, I'.ok.exfs b hb, .inl hb, fun x c e => (I'.ok.exf b hb).2 x c e, fun p hp => absurd (show p ∈ ([] : List (Addr × Obj)) ++ [] from hp) (by simp)⟩
  have loop : codeAny (model X.prog X.w) X.A (.compLoop (.ListComp elt (⟨tg, iter, ifs, 0⟩ :: rest) scope pos) 0 (.ref it) (.ref D) ce) (compPost (model X.prog X.w) X.A X.xe use Qf (.ref D) s3.heap.objs.size) s4 := by
    refine compLoopG hT (fun n s' => ∃ i H', Inv (X.blk s3 H3 scope ce fp) [] (wipe σ (own.map (·.2))) H' s' ∧ tn i s'.heap ∧ (∀ b ∈ fp, H' b = none) ∧ W i n H') ?_ m0 ⟨0, H3, I4, st4, nfp, w0⟩
    rintro n s5 ⟨i, H5, I5, st5, n5, w5⟩
    rcases turn i n H5 w5 with ⟨stop, qq⟩ | ⟨go, Nx, hNx, step⟩
    · have td := T.done (X.blk s3 H3 scope ce fp) rfl rfl rfl hc i [] s5 _ H5 (fun _ _ => False) I5 (stat I5 n5) st5 stop
      refine thnF td fun r s6 ⟨hr, I6⟩ => ?_
      subst hr
      have I7 : Inv X pins σ H5 s6 := I3.call' (ch := fp) I6.os I6.base I6.hok I6.bare fun b hb => ⟨(f3 b hb).1.2.2.2.1, (f3 b hb).1.2.1, (f3 b hb).1.2.2.2.2.1, (f3 b hb).1.2.2.2.2.2⟩
      have nC : H5 s3.heap.objs.size = none := by
        have z : H5 ce.locals = none := I6.free
        rw [cL] at z
        exact z
      obtain ⟨m, hn, _⟩ := I6.loc
      have hn : s6.heap.Ns ce.locals m := hn
      rw [cL] at hn
      exact hRR D s3.heap.objs.size s6 m H5 I7 qq hn (I3.fpOk (Nat.le_refl _) nC)
    · have ti := T.item (X.blk s3 H3 scope ce fp) rfl rfl rfl hc i [] s5 _ H5 (fun _ _ => False) I5 (stat I5 n5) st5 go
      refine thnF ti fun r s6 ⟨u, hr, h6⟩ => ?_
      subst hr
      refine thnF h6 fun _ s7 ⟨x, H7, I7, r7, y7, st7, n7⟩ => ?_
      have I7' := I7.pinned (stat I7 n7) (T.obj _ _ st7)
      refine thnF (pg.run _ s7 _ H7 x u _ I7' r7 (step x H7 y7)) fun _ s8 ⟨σ8, H8, I8, hw8, q8⟩ => ?_
      refine thnF (pt.run _ s8 σ8 H8 _ I8 q8) fun b s9 ⟨H9, I9, q9⟩ => ?_
      have fin : ∀ {σ9 : St} {s' : Shared} {H' : Hp}, Inv (X.blk s3 H3 scope ce fp) ([] ++ pinsAt fp s7.heap) σ9 H' s' → (wipe σ (own.map (·.2))).length = σ9.length → (∀ (j : Nat) v, (wipe σ (own.map (·.2)))[j]? = some (some v) → σ9[j]? = some (some v)) → Nx H' →
          ∃ m, m < n ∧ ∃ i H', Inv (X.blk s3 H3 scope ce fp) [] (wipe σ (own.map (·.2))) H' s' ∧ tn i s'.heap ∧ (∀ b ∈ fp, H' b = none) ∧ W i m H' := fun {σ9 s' H'} I' hl hk nx => by
        obtain ⟨m', hm, w'⟩ := hNx H' nx
        have pin' : ∀ b ∈ fp, ∀ o, s7.heap.get? b = some o → s'.heap.get? b = some o ∧ H' b = none := fun b hb o e =>
          let z := I'.pin (b, o) (List.mem_append_right _ (List.mem_append_right _ (mem_pinsAt hb e)))
          ⟨z.1, z.2.1⟩
        refine ⟨m', hm, i + 1, H', (I'.unpinned (pins := [])).weak hl hk, T.keep _ _ _ st7 fun b hb o e => (pin' b hb o e).1, fun b hb => ?_, w'⟩
        obtain ⟨o, e, _⟩ := T.obj _ _ st7 b hb
        exact (pin' b hb o e).2
      have hl8 : (wipe σ (own.map (·.2))).length = σ8.length := by rw [← hw8, wipe_length]
      have hk8 : ∀ (j : Nat) v, (wipe σ (own.map (·.2)))[j]? = some (some v) → σ8[j]? = some (some v) := fun j v e => by
        rw [← hw8] at e
        exact (wipe_some e).1
      cases b with
      | false =>
        simp only [Bool.false_eq_true, if_false] at q9 ⊢
        exact fin I9 hl8 hk8 q9
      | true =>
        simp only [if_true] at q9 ⊢
        refine thnF (pb _ s9 σ8 H9 _ I9 q9) fun f s10 ⟨hf, H10, I10, nx⟩ => ?_
        refine ⟨hf, fin I10 (hl8.trans (wipe_length σ8 vs1).symm) (fun j v e => ?_) nx⟩
        rw [← hw8] at e
        obtain ⟨e1, e2⟩ := wipe_some e
        rw [wipe_out fun z => e2 (hv j z)]
        exact e1
  exact codeAny_compStart_list loop (T.self X.A 0 _ _ _ st4 loop)
theorem pe_lcG {elt tg iter : Expr} {ifs : List Expr} {rest : List Comprehension} {scope : Scope} {own : List (Str × Nat)} {vs1 : List Nat} {pos : Pos} {wi : TI} {g : TG} {tt : TT} {tb : Addr → TB} {bd : Addr → Value → Env → Sem Fin}
    (hT : ∀ D it env, compTurn (.ListComp elt (⟨tg, iter, ifs, 0⟩ :: rest) scope pos) 0 it (.ref D) env = tTurn ifs tg iter (bd D it env) (again (.compLoop (.ListComp elt (⟨tg, iter, ifs, 0⟩ :: rest) scope pos) 0 it (.ref D) env)) it env)
    (hc : X.calm = true) (hN : X.N.Nodup) (hi : PI X tg iter wi) (ok : BlkOk X.N X.env.scope scope own) (hv : ∀ i ∈ vs1, i ∈ own.map (·.2))
    (hg : ∀ (s : Shared) (H : Hp) (C : Addr) (cl : List (Str × Addr)) (fp : List Addr), PG (X.blk s H scope (compEnvC scope cl C X.env) fp) tg g) (ht : ∀ (s : Shared) (H : Hp) (C : Addr) (cl : List (Str × Addr)) (fp : List Addr), PTs (X.blk s H scope (compEnvC scope cl C X.env) fp) ifs tt)
    (hb : BdFam X scope bd (.ListComp elt (⟨tg, iter, ifs, 0⟩ :: rest) scope pos) vs1 tb) (hs : ∀ x, foldedSetIterable iter X.env x = pure x) :
    PE X (.ListComp elt (⟨tg, iter, ifs, 0⟩ :: rest) scope pos) (tLcN wi g tt tb (own.map (·.2))) := by
  refine ⟨fun pins s σ H Q I h => ?_⟩
  rw [eval_ListComp]
  refine lcG_core hT hc hN I hi ok hv hg ht hb hs h fun D C s' m H' I' q hn f => ⟨m, hn, fun h'' sb => ?_⟩
  obtain ⟨f0, f1, f2, f3, f4, f5⟩ := f
  exact ⟨.ref D, H', I'.turned (t' := s'.toks) (fun b o hb e => (sb.2 b hb).trans e) f0 f1 f3 f4 f5, rfl, q⟩
end
end L2
namespace Mir
open PySem PySem.Spec L2
open PyProof.Rows (envOfC)
def valsS : Sl → Sl
  | .own _ => .unk
  | s => s
def vals (Γ : Gam) : Gam := Γ.map valsS
theorem vals_at {Γ : Gam} {i : Nat} {d : D} (h : (vals Γ)[i]? = some (Sl.val d)) : Γ[i]? = some (Sl.val d) := by
  unfold vals at h
  rw [List.getElem?_map] at h
  cases q : Γ[i]? with
  | none => rw [q] at h; cases h
  | some s => rw [q] at h; cases s <;> first | exact h | cases h
theorem vals_own {Γ : Gam} {i : Nat} {d : D} (h : (vals Γ)[i]? = some (Sl.own d)) : False := by
  unfold vals at h
  rw [List.getElem?_map] at h
  cases q : Γ[i]? with
  | none => rw [q] at h; cases h
  | some s => rw [q] at h; cases s <;> cases h
theorem vals_ref {Γ : Gam} {i : Nat} {d : RefK} (h : (vals Γ)[i]? = some (Sl.ref d)) : Γ[i]? = some (Sl.ref d) := by
  unfold vals at h
  rw [List.getElem?_map] at h
  cases q : Γ[i]? with
  | none => rw [q] at h; cases h
  | some s => rw [q] at h; cases s <;> first | exact h | cases h
theorem Holds.plain {G : GG} {H0 S1 H1 S H S' H' : Hp} {σ : L2.St} {Γ : Gam} (h : Holds G H0 σ S H Γ) (e : Ex S S') (e1 : Ex S' H') (e0 : Ex H0 H') : Holds G H0 σ S' H' (vals Γ) where
  ex := e1
  e0 := e0
  len := Nat.le_trans (Nat.le_of_eq (by unfold vals; rw [List.length_map])) h.len
  val := fun i d q => let ⟨v, a, b⟩ := h.val i d (vals_at q); ⟨v, a, b.mono e⟩
  own := fun i d q => (vals_own q).elim
  dis := fun i j d e p q => (vals_own q).elim
  ref := fun i a q => ⟨(h.ref i a (vals_ref q)).1, (h.ref i a (vals_ref q)).2.mono e⟩
def subL (a b : List Bool) : Bool := (List.range a.length).all fun i => !(a.getD i false) || b.getD i false
theorem subL_at {a b : List Bool} (h : subL a b = true) {i : Nat} (k : a[i]? = some true) : b[i]? = some true := by
  have hi : i < a.length := (List.getElem?_eq_some_iff.mp k).1
  have := List.all_eq_true.mp h i (List.mem_range.mpr hi)
  rw [Bool.or_eq_true] at this
  rcases this with z | z
  · rw [List.getD_eq_getElem?_getD, k] at z; cases z
  · rw [List.getD_eq_getElem?_getD] at z
    cases q : b[i]? with
    | none => rw [q] at z; cases z
    | some c => rw [q] at z; exact congrArg some z
def withL (F : Fm) (L : List Bool) (h : subL L F.L = true) : Fm := { F with L := L, loc := fun X hX i x hL hN => F.loc X hX i x (subL_at h hL) hN }
abbrev RB := Gam → M (List D) → Prop
def SemB (G : GG) (tb : Addr → TB) (R : RB) : Prop := ∀ Γ mb xs, R Γ mb → mb = .ok xs → ∀ H0 σ S1 H1 S H D acc (Nx : Hp → Prop), H1 D = none → Ex H0 H1 → Holds G H0 σ S H Γ → Bs G S1 H1 D acc S H → acc.length + xs.length ≤ sizeLine →
  (∀ S' H', Ex S S' → Bs G S1 H1 D (acc ++ xs) S' H' → Nx H') → tb D σ H Nx
def ElB (F : Fm) (elt : Expr) : RB := fun Γ mb => ∃ me, EM F elt Γ me ∧ mb = me.bind fun y => .ok [y]
def TurnG (F : Fm) (Γ : Gam) (tf : D → Gam → Option Gam) (ifs : List Expr) (R : RB) (f : D → M (List D)) : Prop :=
  ∀ d, (∃ Γ' mt mb, tf d Γ = some Γ' ∧ IfM F ifs Γ' mt ∧ R Γ' mb ∧ f d = ifM mt mb (.ok [])) ∨ f d = .stk
def InB (F : Fm) (tg i : Expr) (vs : List Nat) (tf : D → Gam → Option Gam) (ifs : List Expr) (R : RB) : RB := fun Γ mb =>
  ∃ mi f, IM F tg i Γ mi ∧ TurnG F (wipeΓ (vals Γ) vs) tf ifs R f ∧ mb = mi.bind fun ds => compL f ds
theorem sem_el {F : Fm} {elt : Expr} : SemB F.G (fun D => tEl (cE F elt) D) (ElB F elt) := by
  rintro Γ mb xs ⟨me, hme, rfl⟩ hx H0 σ S1 H1 S H D acc Nx hD e0 hh b hl hN
  cases me with
  | stk => cases hx
  | exn e => cases hx
  | ok y =>
    cases hx
    refine hme.c H0 σ S H _ hh (fun S6 H6 g6 v rv => ?_)
    have b6 := b.step g6
    obtain ⟨vs, hvs, hlen⟩ := b6.len
    refine ⟨vs, hvs, ?_, hN S6 _ g6.s (b6.add hD rv hvs)⟩
    rw [List.length_cons, List.length_nil] at hl
    omega
abbrev TgSem (G : GG) (g : TG) (tf : D → Gam → Option Gam) (L : List Bool) : Prop := ∀ H0 σ S H v d Γ Γ' (Q : L2.St → Hp → Prop), Holds G H0 σ S H Γ → Rep G S v d → tf d Γ = some Γ' → (∀ σ', Holds G H0 σ' S H Γ' → σ'.length = σ.length → (∀ i : Nat, L[i]? ≠ some true → σ'[i]? = σ[i]?) → Q σ' H) → g v σ H Q
theorem wipe_turn {σ σ' : L2.St} {vs : List Nat} {L : List Bool} (l : σ'.length = (wipe σ vs).length) (k : ∀ i : Nat, L[i]? ≠ some true → σ'[i]? = (wipe σ vs)[i]?) (hw : ∀ i : Nat, L[i]? = some true → i ∈ vs) : wipe σ' vs = wipe σ vs := by
  refine (wipe_eq l k hw).trans ?_
  refine List.ext_getElem? fun j => ?_
  by_cases hj : j ∈ vs
  · rw [wipe_at hj, wipe_at hj, wipe_length]
  · rw [wipe_out hj]
theorem sem_in {F : Fm} {tg i : Expr} {vs : List Nat} {tf : D → Gam → Option Gam} {ifs : List Expr} {R : RB} {tb : Addr → TB} {g : TG} {L : List Bool} (hb : SemB F.G tb R) (hg : TgSem F.G g tf L) (hw : ∀ i : Nat, L[i]? = some true → i ∈ vs) :
    SemB F.G (fun D => tIn (cI F tg i) g (cP F ifs) (tb D) vs) (InB F tg i vs tf ifs R) := by
  rintro Γ mb xs ⟨mi, f, hi, ht, rfl⟩ hx H0 σ S1 H1 S H D acc Nx hD e0 hh b hl hN
  cases mi with
  | stk => cases hx
  | exn e => cases hx
  | ok ds =>
    have hx : compL f ds = .ok xs := hx
    refine hi.c H0 σ S H _ hh (fun Sa Ha ga J hJ => ?_)
    have ba := b.step ga
    have ha := hh.grow ga
    refine ⟨fun j m H => m = ds.length - j ∧ j ≤ ds.length ∧ ∃ S2 ac r, Ex Sa S2 ∧ Bs F.G S1 H1 D (acc ++ ac) S2 H ∧ compL f (ds.drop j) = .ok r ∧ ac ++ r = xs, ⟨ds.length, by simp, Nat.zero_le _, Sa, [], xs, Same.refl _, by rw [List.append_nil]; exact ba, hx, rfl⟩, ?_⟩
    rintro j m H2 ⟨rfl, hj, S2, ac, r, e2, b2, hr, hac⟩
    obtain ⟨stop, go⟩ := hJ S2 H2 e2 b2.grow.sub
    by_cases hlt : j < ds.length
    · obtain ⟨hgo, hy⟩ := go j ds[j] (List.getElem?_eq_getElem hlt)
      rw [List.drop_eq_getElem_cons hlt] at hr
      obtain ⟨ys, r', hy1, hr', rfl⟩ := compL_cons hr
      refine .inr ⟨hgo, fun H => ∃ S3, Ex Sa S3 ∧ Bs F.G S1 H1 D (acc ++ (ac ++ ys)) S3 H, fun H' ⟨S', e', b'⟩ => ⟨ds.length - (j + 1), by omega, rfl, hlt, S', ac ++ ys, r', e', b', hr', by rw [List.append_assoc]; exact hac⟩, fun x H3 y => ?_⟩
      obtain ⟨S3, g3, r3⟩ := hy x H3 y
      rcases ht ds[j] with ⟨Γ', mt, me, q1, hif, hR, hf⟩ | z
      · have b3 := b2.step g3
        have h3 : Holds F.G H0 _ S3 H3 _ := (Holds.plain (S1 := S) (H1 := H) ha (e2.trans g3.s) g3.sub (e0.trans b3.grow.h)).wipe vs
        refine hg H0 _ S3 H3 x ds[j] _ Γ' _ h3 r3 q1 fun σ4 h4 l4 k4 => ⟨wipe_turn l4 k4 hw, ?_⟩
        rw [hf] at hy1
        cases mt with
        | stk => cases hy1
        | exn e => cases hy1
        | ok c =>
          refine hif.c H0 σ4 S3 H3 _ h4 (fun S5 H5 g5 => ?_)
          have e5 : Ex Sa S5 := (e2.trans g3.s).trans g5.s
          cases c with
          | false =>
            cases hy1
            refine iteF ?_
            rw [List.append_nil]
            exact ⟨S5, e5, b3.step g5⟩
          | true =>
            have hy1 : me = .ok ys := hy1
            refine iteT (hb Γ' me ys hR hy1 H0 σ4 S1 H1 S5 H5 D (acc ++ ac) _ hD e0 (h4.grow g5) (b3.step g5) ?_ ?_)
            · have : (ac ++ (ys ++ r')).length = xs.length := congrArg List.length hac
              simp only [List.length_append] at this ⊢
              omega
            · intro S' H' e' b'
              refine ⟨S', e5.trans e', ?_⟩
              rw [← List.append_assoc]
              exact b'
      · rw [z] at hy1; cases hy1
    · have e : j = ds.length := by omega
      subst e
      rw [List.drop_length] at hr
      cases hr
      rw [List.append_nil] at hac
      subst hac
      exact .inl ⟨stop, hN S2 H2 (ga.s.trans e2) b2⟩
section
variable {F : Fm} {Γ : Gam} {scope : Scope} {own : List (Str × Nat)} {V L : List Bool} {kd : List (Str × NameKind)} {elt tg iter : Expr} {ifs : List Expr} {pos : Pos} {mi : M (List D)} {f : D → M (List D)} {tf : D → Gam → Option Gam} {R : RB} {tb : Addr → TB}
theorem ev_lcG (B : BlkF F scope own V L kd) (hi : IM F tg iter Γ mi) {g : TG} (hg : TgSem F.G g tf L) (hb : SemB F.G tb R)
    (ht : TurnG (blkF F B) (wipeΓ (vals Γ) (own.map (·.2))) tf ifs R f) : EvM F (tLcN (cI F tg iter) g (cP (blkF F B) ifs) tb (own.map (·.2))) Γ (lcM mi f) := by
  intro H0 σ S H Q hh po
  refine hi.c H0 σ S H _ hh ((Po.bind po).imp fun ds S1 H1 g1 q1 J hJ => ?_)
  intro A hA
  cases hc : compL f ds with
  | stk => rw [hc] at q1; exact False.elim q1
  | exn e => rw [hc] at q1; exact False.elim q1
  | ok xs =>
    rw [hc] at q1
    obtain ⟨hR, q1⟩ := Po.gate (m := M.ok (D.lst xs)) q1
    have h1 : Holds F.G H0 σ S1 H1 Γ := hh.grow g1
    refine ⟨fun i m H => m = ds.length - i ∧ i ≤ ds.length ∧ ∃ S acc r, Bs F.G S1 H1 A acc S H ∧ compL f (ds.drop i) = .ok r ∧ acc ++ r = xs, ⟨ds.length, by simp, Nat.zero_le _, S1, [], xs, Bs.start g1.sub hA, hc, rfl⟩, ?_⟩
    rintro i m H2 ⟨rfl, hi, S2, acc, r, b, hr, hR2⟩
    obtain ⟨stop, go⟩ := hJ S2 H2 b.grow.s b.grow.sub
    by_cases hlt : i < ds.length
    · obtain ⟨hgo, hy⟩ := go i ds[i] (List.getElem?_eq_getElem hlt)
      rw [List.drop_eq_getElem_cons hlt] at hr
      obtain ⟨ys, r', hx, hr', rfl⟩ := compL_cons hr
      refine .inr ⟨hgo, fun H => ∃ S, Bs F.G S1 H1 A (acc ++ ys) S H, fun H' ⟨S', b'⟩ => ⟨ds.length - (i + 1), by omega, rfl, hlt, S', acc ++ ys, r', b', hr', by rw [List.append_assoc]; exact hR2⟩, fun x H3 y => ?_⟩
      obtain ⟨S3, g3, r3⟩ := hy x H3 y
      rcases ht ds[i] with ⟨Γ', mt, me, e1, hif, hRR, hf⟩ | z
      · have b3 := b.step g3
        have h3 := (Holds.plain (S1 := S) (H1 := H) h1 (b.grow.s.trans g3.s) g3.sub (h1.e0.trans b3.grow.h)).wipe (own.map (·.2))
        refine hg H0 _ S3 H3 x ds[i] _ Γ' _ h3 r3 e1 fun σ4 h4 l4 k4 => ⟨wipe_turn l4 k4 B.hw, ?_⟩
        rw [hf] at hx
        cases mt with
        | stk => cases hx
        | exn e => cases hx
        | ok c =>
          refine hif.c H0 σ4 S3 H3 _ h4 (fun S5 H5 g5 => ?_)
          cases c with
          | false =>
            cases hx
            refine iteF ?_
            rw [List.append_nil]
            exact ⟨S5, b3.step g5⟩
          | true =>
            have hx : me = .ok ys := hx
            refine iteT (hb Γ' me ys hRR hx H0 σ4 S1 H1 S5 H5 A acc _ hA h1.e0 (h4.grow g5) (b3.step g5) ?_ fun S' H' _ b' => ⟨S', b'⟩)
            have : (acc ++ (ys ++ r')).length = xs.length := congrArg List.length hR2
            simp only [List.length_append] at this
            omega
      · rw [z] at hx; cases hx
    · have e : i = ds.length := by omega
      subst e
      rw [List.drop_length] at hr
      cases hr
      rw [List.append_nil] at hR2
      subst hR2
      obtain ⟨S', g', rr⟩ := b.done hA
      exact .inl ⟨stop, q1 S' H2 g' _ rr⟩
end
def hwL (L : List Bool) (vs : List Nat) : Bool := (List.range L.length).all fun i => !(L.getD i false) || vs.contains i
theorem hwL_at {L : List Bool} {vs : List Nat} (h : hwL L vs = true) (i : Nat) (k : L[i]? = some true) : i ∈ vs := by
  have hi : i < L.length := (List.getElem?_eq_some_iff.mp k).1
  have := List.all_eq_true.mp h i (List.mem_range.mpr hi)
  rw [Bool.or_eq_true] at this
  rcases this with z | z
  · rw [List.getD_eq_getElem?_getD, k] at z; cases z
  · simpa using z
section
variable {F : Fm} {Γ : Gam} {scope : Scope} {own : List (Str × Nat)} {V L : List Bool} {kd : List (Str × NameKind)} {elt tg iter tg1 iter1 tg2 iter2 : Expr} {ifs ifs1 ifs2 : List Expr} {pos : Pos} {mi : M (List D)} {f : D → M (List D)} {tf tf1 tf2 : D → Gam → Option Gam}
def BdM (F : Fm) {scope : Scope} {own : List (Str × Nat)} {V L : List Bool} {kd : List (Str × NameKind)} (B : BlkF F scope own V L kd) (bd : Addr → Value → Env → Sem Fin) (E : Expr) (k : Nat) (vs : List Nat) (R : RB) : Prop :=
  ∃ tb, SemB F.G tb R ∧ ∀ X, F.Xs X → ∀ (s : Shared) (H : Hp) (C : Addr) (cl : List (Str × Addr)) (fp : List Addr) (D : Addr) (it : Value), PBd (X.blk s H scope (compEnvC scope cl C X.env) fp) (bd D it (compEnvC scope cl C X.env)) (.compLoop E k it (.ref D) (compEnvC scope cl C X.env)) vs (tb D)
theorem bd_el {B : BlkF F scope own V L kd} {E : Expr} {k : Nat} : BdM F B (fun D it env => bdIn E elt k it (.ref D) env) E k [] (ElB (blkF F B) elt) :=
  ⟨_, sem_el (F := blkF F B), fun X hX s H C cl fp D it => pbd_in (cE_ok _ ⟨X, s, H, C, cl, fp, hX, rfl⟩)⟩
theorem bd_in {B : BlkF F scope own V L kd} {gs : List Comprehension} {sc : Scope} {k : Nat} {L1 : List Bool} {vs1 vs2 : List Nat} {bd1 : Addr → Value → Env → Sem Fin} {R : RB} (hcm : F.cm = true) (hk : gs[k + 1]? = some ⟨tg1, iter1, ifs1, 0⟩)
    (hT : ∀ D it env, compTurn (.ListComp elt gs sc pos) (k + 1) it (.ref D) env = tTurn ifs1 tg1 iter1 (bd1 D it env) (again (.compLoop (.ListComp elt gs sc pos) (k + 1) it (.ref D) env)) it env)
    (hs1 : ∀ env x, foldedSetIterable iter1 env x = pure x) (hL : subL L1 L = true) (hw : hwL L1 vs1 = true) (hv : vs2.all vs1.contains = true) (hg : TgM (withL (blkF F B) L1 hL) tg1 tf1) (hb : BdM F B bd1 (.ListComp elt gs sc pos) (k + 1) vs2 R) :
    BdM F B (fun D it env => bdOut (.ListComp elt gs sc pos) iter1 k it (.ref D) env) (.ListComp elt gs sc pos) k vs1 (InB (blkF F B) tg1 iter1 vs1 tf1 ifs1 R) := by
  obtain ⟨tb, h1, h2⟩ := hb
  obtain ⟨g, pg, eg⟩ := hg
  refine ⟨_, sem_in (F := blkF F B) (L := L1) h1 (fun H0 σ S H v d Γ Γ' Q => eg H0 σ S H v d Γ Γ' Q) (hwL_at hw), fun X hX s H C cl fp D it => ?_⟩
  have hY : (blkF F B).Xs (X.blk s H scope (compEnvC scope cl C X.env) fp) := ⟨X, s, H, C, cl, fp, hX, rfl⟩
  exact pbd_out rfl hk (F.hc hcm X hX) (fun it => hT D it _) (fun i hi => by simpa using List.all_eq_true.mp hv i hi) (hs1 _) (cI_ok _ hY) (pg _ hY) (cP_ok _ hY) (fun it => h2 X hX s H C cl fp D it)
theorem em_lcG {R : RB} {rest : List Comprehension} {vs1 : List Nat} {bd : Addr → Value → Env → Sem Fin} (B : BlkF F scope own V L kd) (hcm : F.cm = true)
    (hT : ∀ D it env, compTurn (.ListComp elt (⟨tg, iter, ifs, 0⟩ :: rest) scope pos) 0 it (.ref D) env = tTurn ifs tg iter (bd D it env) (again (.compLoop (.ListComp elt (⟨tg, iter, ifs, 0⟩ :: rest) scope pos) 0 it (.ref D) env)) it env)
    (hi : IM F tg iter Γ mi) (hg : TgM (blkF F B) tg tf) (hv : vs1.all (own.map (·.2)).contains = true) (hb : BdM F B bd (.ListComp elt (⟨tg, iter, ifs, 0⟩ :: rest) scope pos) 0 vs1 R) (ht : TurnG (blkF F B) (wipeΓ (vals Γ) (own.map (·.2))) tf ifs R f)
    (hs : ∀ X, F.Xs X → ∀ x, foldedSetIterable iter X.env x = pure x) : EM F (.ListComp elt (⟨tg, iter, ifs, 0⟩ :: rest) scope pos) Γ (lcM mi f) := by
  obtain ⟨g, pg, eg⟩ := hg
  obtain ⟨tb, h1, h2⟩ := hb
  refine ⟨_, fun X hX => ?_, ev_lcG B hi (g := g) (fun H0 σ S H v d Γ Γ' Q => eg H0 σ S H v d Γ Γ' Q) h1 ht⟩
  have hn := F.hN X hX
  exact pe_lcG hT (F.hc hcm X hX) (by rw [hn]; exact F.nd) (cI_ok X hX) (by rw [hn]; exact blk_of (by rw [F.hkd X hX]; exact B.ok)) (fun i hi => by have h := List.all_eq_true.mp hv i hi; rw [List.contains_iff_mem] at h; exact h) (fun s H C cl fp => pg _ ⟨X, s, H, C, cl, fp, hX, rfl⟩) (fun s H C cl fp => cP_ok _ ⟨X, s, H, C, cl, fp, hX, rfl⟩) (h2 X hX) (hs X hX)
abbrev E3 (elt tg iter : Expr) (ifs : List Expr) (tg1 iter1 : Expr) (ifs1 : List Expr) (tg2 iter2 : Expr) (ifs2 : List Expr) (scope : Scope) (pos : Pos) : Expr := .ListComp elt [⟨tg, iter, ifs, 0⟩, ⟨tg1, iter1, ifs1, 0⟩, ⟨tg2, iter2, ifs2, 0⟩] scope pos
theorem em_lc3 {L1 L2 : List Bool} {vs1 vs2 : List Nat} (B : BlkF F scope own V L kd) (hL : subL L1 L = true) (hw : hwL L1 vs1 = true) (hv : vs1.all (own.map (·.2)).contains = true) (hL2 : subL L2 L = true) (hw2 : hwL L2 vs2 = true) (hv2 : vs2.all vs1.contains = true)
    (hcm : F.cm = true) (hi : IM F tg iter Γ mi) (hg : TgM (blkF F B) tg tf) (hg1 : TgM (withL (blkF F B) L1 hL) tg1 tf1) (hg2 : TgM (withL (blkF F B) L2 hL2) tg2 tf2)
    (ht : TurnG (blkF F B) (wipeΓ (vals Γ) (own.map (·.2))) tf ifs (InB (blkF F B) tg1 iter1 vs1 tf1 ifs1 (InB (blkF F B) tg2 iter2 vs2 tf2 ifs2 (ElB (blkF F B) elt))) f)
    (hs : ∀ X, F.Xs X → ∀ x, foldedSetIterable iter X.env x = pure x := by intros; rfl) (hs1 : ∀ env x, foldedSetIterable iter1 env x = pure x := by intros; rfl) (hs2 : ∀ env x, foldedSetIterable iter2 env x = pure x := by intros; rfl) : EM F (E3 elt tg iter ifs tg1 iter1 ifs1 tg2 iter2 ifs2 scope pos) Γ (lcM mi f) :=
  em_lcG B hcm (fun D it env => turn3_0 it (.ref D) env) hi hg hv (bd_in hcm rfl (fun D it env => turn3_1 it (.ref D) env) hs1 hL hw hv2 hg1 (bd_in hcm rfl (fun D it env => turn3_2 it (.ref D) env) hs2 hL2 hw2 rfl hg2 bd_el)) ht hs
end
def blkAll (N : List Str) (kd0 : List (Str × NameKind)) (scope : Scope) (own : List (Str × Nat)) (V L : List Bool) : Bool :=
  blkC N (dumS kd0) scope own && visC N V (relN kd0 scope.names) && locC N L (relN kd0 scope.names) scope.names && ((List.range L.length).all fun i => !(L.getD i false) || own.any fun p => p.2 == i)
theorem blkF_of {F : Fm} {scope : Scope} {own : List (Str × Nat)} {V L : List Bool} (N : List Str) (kd0 : List (Str × NameKind)) (hN : F.N = N) (hk : F.kd = kd0) (h : blkAll N kd0 scope own V L = true) : BlkF F scope own V L (relN kd0 scope.names) := by
  subst hN hk
  unfold blkAll at h
  rw [Bool.and_eq_true, Bool.and_eq_true, Bool.and_eq_true] at h
  exact ⟨h.1.1.1, rfl, h.1.1.2, h.1.2, h.2⟩
end Mir
namespace Mir
open PySem PySem.Spec L2
open PyProof.Rows (envOfC)
structure XcN (G : GG) (x : Str) (tab : List Bool) : Prop where
  ex : ∃ (cv : Value) (v : V), (G.mg x = some cv ∨ (G.mg x = none ∧ bootBuiltins x = some cv ∧ x ≠ "__name__")) ∧ RelV v cv ∧ (∀ u, RelV v u → u = cv) ∧
    (∀ c b, tab[c]? = some b → PySem.W.exmOne G.K (G.xc c) cv = some b ∧ PySem.W.kitOne G.K (G.xc c) cv = some b)
  db : (x == ("__debug__" : Str)) = false
structure XcI (G : GG) (c : Nat) : Prop where
  ex : ∃ Dc, G.xc c = .ref Dc ∧ ExcC G.K Dc
def refK (a : Addr) (dd : Option Addr) (e : Exc) : RefK := ⟨a, dd.map fun d => (d, e.fs)⟩
section
variable {F : Fm} {Γ : Gam} {X Y S J : Type} {fx : X → Gam} {fy : Y → Gam} {fs : S → Gam} {fj : J → Gam} {x0 : X} {pos : Pos} {rest body suite : List Stmt} {b₀ : Stmt}
theorem pe_nm {X : Cx} {x : Str} {v : V} {cv : Value} {pos : Pos} (hg : Gl X x) (h : X.mg x = some cv ∨ (X.mg x = none ∧ bootBuiltins x = some cv ∧ x ≠ "__name__")) (r : RelV v cv) (db : (x == ("__debug__" : Str)) = false) : PE X (.Name x pos) (tC v) := by
  rcases h with h | ⟨h, hb, hn⟩
  · exact pe_glob hg h r db
  · exact pe_bltn hg h hb r hn db
end
end Mir
namespace Mir
open PySem PySem.Spec L2
open PyProof.Rows (envOfC)
open ClX (CRead CVal tCVal pe_cval)
section
variable {F : Fm} {Γ : Gam} {a b c e o : Expr} {es : List Expr} {ma mb mc m mo me : M D} {pos apos : Pos}
def tagD : D → Option String
  | .non => some "NoneType" | .bl _ => some "bool" | .int _ => some "int" | .str _ => some "str" | .lst _ => some "list" | .tup _ => some "tuple" | .ktp _ => some "tuple"
  | _ => none
structure TyN (G : GG) (x : Str) (tb : List (String × Bool)) (ob : List (Nat × Bool)) : Prop where
  ex : ∃ (cv : Value) (v : V), (G.mg x = some cv ∨ (G.mg x = none ∧ bootBuiltins x = some cv ∧ x ≠ "__name__")) ∧ RelV v cv ∧ ClsV v cv ∧ (∀ t b, tb.lookup t = some b → PySem.W.kitOne G.K (.type t) cv = some b) ∧
    (∀ c b, ob.lookup c = some b → PySem.W.kitOne G.K (.ref (G.ca c)) cv = some b ∧ Cls G.K (G.ca c) ∧ PySem.W.findIn G.K (.ref (G.ca c)) "__class__" = some (some (.builtin "object.__class__")) ∧
      PySem.W.specialIn G.K (.builtin "object.__class__") "__get__" = some (some (.builtin "getset_descriptor.__get__")) ∧ PySem.W.takesIn G.K (.builtin "object.__class__") = some true ∧ PySem.W.mroIn G.K (G.ca c) (.type "object") = some true)
  db : (x == ("__debug__" : Str)) = false
def isiT (tb : List (String × Bool)) (d : D) : M D := match tagD d with
  | some t => (match tb.lookup t with
    | some b => .ok (.bl b)
    | none => .stk)
  | none => .stk
def isiD (tb : List (String × Bool)) (ob : List (Nat × Bool)) (d : D) : M D := match d with
  | .obj c _ => (ofOpt (ob.lookup c)).bind fun b => .ok (.bl b)
  | d => isiT tb d
theorem isiT_po {G : GG} {E : XK} {S H : Hp} {K : D → Hp → Hp → Prop} {tb : List (String × Bool)} {d : D} (p : Po G E S H K (isiT tb d)) : ∃ t b, tagD d = some t ∧ tb.lookup t = some b ∧ Po G E S H K (.ok (.bl b)) := by
  unfold isiT at p
  split at p
  · rename_i t ht
    split at p
    · rename_i b hb
      exact ⟨t, b, ht, hb, p⟩
    · exact False.elim p
  · exact False.elim p
theorem rep_ty {G : GG} {S H : Hp} {v : V} {d : D} {t : String} (e : Ex S H) (r : Rep G S v d) (h : tagD d = some t) : TyX G.K H v (.type t) := by
  cases r with
  | non => cases h; exact .base .non
  | bl b => cases h; exact .base (.bl b)
  | int b => cases h; exact .base (.int b)
  | str b => cases h; exact .base (.str b)
  | tup h1 r => cases h; exact .base (.tup (e _ _ h1))
  | lst h1 r => cases h; exact .base (.lst (e _ _ h1))
  | kt k _ =>
    cases h
    obtain ⟨o, its, n, h1, h2, _⟩ := k
    exact .kTuple h1 h2
  | _ => cases h
theorem em_isi {x : Str} {tb : List (String × Bool)} {ob : List (Nat × Bool)} {p p2 : Pos} (K : TyN F.G x tb ob) (hgi : F.kd.lookup ("isinstance" : Str) = some .globalImplicit) (hmi : F.G.mg "isinstance" = none) (hg : F.kd.lookup x = some .globalImplicit) (ha : EM F a Γ ma)
    (hst : ∀ X, F.Xs X → starEach [a, .Name x p2] X.env = [(false, eval a X.env), (false, eval (.Name x p2) X.env)] := by intros; rfl) :
    EM F (.Call (.Name "isinstance" p) [a, .Name x p2] [] pos) Γ (b1 (isiD tb ob) ma) := by
  obtain ⟨cv, vv, hnm, hrel, hcl, htb, hob⟩ := K.ex
  obtain ⟨ta, pa, ea⟩ := ha
  refine ⟨tCB (rIsi F.G.K) (tCons ta (tCons (tC vv) tNil)), fun X hX => ?_, fun H0 σ S H Q hh po => ?_⟩
  · obtain ⟨h1, h2, h3, h4, h5, h6⟩ := F.hX X hX
    have hc := call_isi (X := X)
    rw [h3] at hc
    have hst := hst X hX
    refine pe_callB hc (F.gl X hX hgi) (by rw [h4]; exact hmi) rfl (pa_cons (pa X hX) (pa_cons (pe_nm (F.gl X hX hg) (by rw [h4]; exact hnm) hrel K.db) pa_nil) (by rw [hst]; rfl)) (by decide) (by decide) (by rw [hst]; rfl) rfl
  · refine ea H0 σ S H _ hh (Po.bind po |>.imp fun d S1 H1 g1 k v r => ?_)
    by_cases hobj : ∃ c fs, d = .obj c fs
    · obtain ⟨c, fs, rfl⟩ := hobj
      cases r with
      | obj h1 h2 n r =>
        obtain ⟨b, hb, k⟩ := Po.opt (o := ob.lookup c) k
        obtain ⟨q1, q2, q3, q4, q5, q6⟩ := hob c b hb
        exact ⟨_, _, _, _, b, rfl, hcl, .base (.ins (g1.sub _ _ h1) q2 q3 q4 q5 q6), q1, k.ok g1.sub _ (.bl _)⟩
    · have e : isiD tb ob d = isiT tb d := by
        cases d with
        | obj c fs => exact absurd ⟨_, _, rfl⟩ hobj
        | _ => rfl
      rw [e] at k
      obtain ⟨t, b, ht, hb, k⟩ := isiT_po k
      exact ⟨_, _, _, _, b, rfl, hcl, rep_ty g1.sub r ht, htb _ b hb, k.ok g1.sub _ (.bl _)⟩
def strsOf : List D → Option (List Str)
  | [] => some []
  | .str x :: ds => (strsOf ds).map (x :: ·)
  | _ => none
theorem reps_strs {G : GG} {S : Hp} : ∀ {ds : List D} {vs : List V} {ys : List Str}, Reps G S vs ds → strsOf ds = some ys → vs = ys.map V.str
  | [], _, _, .nil, e => by cases e; rfl
  | d :: ds, _, _, .cons h r, e => by
    cases d with
    | str x =>
      unfold strsOf at e
      cases q : strsOf ds with
      | none => rw [q] at e; cases e
      | some zs =>
        rw [q] at e
        cases e
        cases h
        rw [reps_strs r q]
        rfl
    | _ => cases e
def b2s (f : D → D → M D) (a b : M D) : M D := a.bind fun x => match x with
  | .str z => b.bind fun y => f (.str z) y
  | _ => .stk
theorem ev2s {to te : TE} {r : V → List V → Hp → VK → Prop} {f : D → D → M D} {H0 : Hp} {σ : L2.St} {S H : Hp} {Q : VK} (eo : EvM F to Γ mo) (ee : EvM F te Γ me) (hh : Holds F.G H0 σ S H Γ) (p : Po F.G (WE F.W σ) S H (KE F Q) (b2s f mo me))
    (h : ∀ z y vy S2 H2, Grow S H S2 H2 → Rep F.G S2 vy y → Po F.G (WE F.W σ) S2 H2 (KE F Q) (f (.str z) y) → r (.str z) [vy] H2 Q) : tM1 r to te σ H Q := by
  refine eo H0 σ S H _ hh ((Po.bind p).imp fun x S1 H1 g1 q1 vx rx => ?_)
  cases x with
  | str z =>
    cases rx
    refine ⟨⟨z, rfl⟩, ee H0 σ S1 H1 _ (hh.grow g1) ((Po.bind q1).imp fun y S2 H2 g2 q2 vy ry => h z y vy S2 H2 (g1.trans g2) ry q2)⟩
  | _ => exact False.elim q1
def pyJoin : D → D → M D
  | .str a, .lst ds => (ofOpt (strsOf ds)).bind fun ys => if (ys.map (·.length)).sum + ys.length * a.length ≤ 16777216 then .ok (.str (Txt.join a ys)) else .stk
  | _, _ => .stk
theorem em_join (ho : EM F o Γ mo) (he : EM F e Γ me) (hs : ∀ X, F.Xs X → starEach [e] X.env = [(false, eval e X.env)] := by intros; rfl) (hbase : ∀ X, F.Xs X → attributeBase o "join" X.env (eval o X.env) = eval o X.env := by intros; rfl) (hline : (apos.endLine == pos.line) = true := by rfl) :
    EM F (.Call (.Attribute o "join" apos) [e] [] pos) Γ (b2s pyJoin mo me) := by
  obtain ⟨to, po, eo⟩ := ho
  obtain ⟨te, pe, ee⟩ := he
  refine ⟨_, fun X hX => (by have h := pe_join (po X hX) (pe X hX) (hs X hX) (hbase X hX) hline; rw [F.hK X hX] at h; exact h), fun H0 σ S H Q hh p => ?_⟩
  refine ev2s eo ee hh p fun a y vy S2 H2 g ry q => ?_
  cases y with
  | lst ds =>
    obtain ⟨ys, hy, q⟩ := Po.opt (o := strsOf ds) q
    obtain ⟨hl, q⟩ := Po.gate (m := M.ok (D.str (Txt.join a ys))) q
    cases ry with
    | lst h1 r =>
      rw [reps_strs r hy] at h1
      exact ⟨a, _, ys, rfl, rfl, .inl (SqL.of (g.sub _ _ h1)), hl, q.ok g.sub _ (.str _)⟩
  | _ => exact False.elim q
def pyStripC : D → D → M D
  | .str a, .str b => if a.length ≤ sizeLine then .ok (.str (Txt.stripChars a b)) else .stk
  | _, _ => .stk
theorem em_stripC (ho : EM F o Γ mo) (he : EM F e Γ me) (hs : ∀ X, F.Xs X → starEach [e] X.env = [(false, eval e X.env)] := by intros; rfl) (hbase : ∀ X, F.Xs X → attributeBase o "strip" X.env (eval o X.env) = eval o X.env := by intros; rfl) (hline : (apos.endLine == pos.line) = true := by rfl) :
    EM F (.Call (.Attribute o "strip" apos) [e] [] pos) Γ (b2s pyStripC mo me) := by
  obtain ⟨to, po, eo⟩ := ho
  obtain ⟨te, pe, ee⟩ := he
  refine ⟨_, fun X hX => pe_m1 PySem.F.slot_str_strip PySem.F.type_str_strip mt_stripChars (po X hX) (pe X hX) (hs X hX) (hbase X hX) hline, fun H0 σ S H Q hh p => ?_⟩
  refine ev2s eo ee hh p fun a y vy S2 H2 g ry q => ?_
  cases y with
  | str b =>
    obtain ⟨hl, q⟩ := Po.gate (m := M.ok (D.str (Txt.stripChars a b))) q
    cases ry
    exact ⟨a, b, rfl, rfl, hl, q.ok g.sub _ (.str _)⟩
  | _ => exact False.elim q
structure CInt (G : GG) (x f : Str) (i : Int) : Prop where
  ex : ∃ C mc u, G.mg x = some (.ref C) ∧ CRead G.K C mc ∧ CVal G.K C mc f (.int i) u
  db : (x == ("__debug__" : Str)) = false
end
end Mir
namespace Mir
open PySem PySem.Spec L2
open PyProof.Rows (envOfC)
structure DunK (G : GG) (k c : Nat) (name : Str) (m : List D → M D) : Prop where
  ex : ∃ f fd ps j, j + 1 ≤ k ∧ FnOk G.P G.w G.K G.mg G.base (L2.CX G.P G.w) j f fd ps (spM G m) ∧ PySem.W.findIn G.K (.ref (G.ca c)) name = some (some (.ref f)) ∧ PySem.W.isFn G.K (.ref f) = true ∧ PySem.W.fnIn G.K f = true ∧ Binds G.K fd ps []
theorem DunK.mono {G : GG} {j k c : Nat} {x : Str} {m : List D → M D} (h : DunK G j c x m) (l : j ≤ k) : DunK G k c x m := by
  obtain ⟨f, fd, ps, i, hi, r⟩ := h.ex
  exact ⟨f, fd, ps, i, Nat.le_trans hi l, r⟩
section
variable {X : Cx} {CX : CXT} {pins : List (Addr × Obj)} {σ : L2.St} {H : Hp} {s : Shared} {n : Nat} {f : Addr} {fd : FuncData} {ps : List Str} {sp : Sp} {E : XK}
end
section
variable {F : Fm} {Γ : Gam} {X S : Type} {fx : X → Gam} {fs : S → Gam} {x0 : X} {a b c e o : Expr} {es : List Expr} {ma mb mc m mo me : M D} {pos apos : Pos} {rest : List Stmt}
theorem DunK.at {k c : Nat} {x : Str} {m : List D → M D} (K : DunK F.G F.k c x m) (X : Cx) (hX : F.Xs X) : ∃ f fd ps j, j + 1 ≤ F.k ∧ FnOk X.prog X.w X.K X.mg X.base (L2.CX X.prog X.w) j f fd ps (spM F.G m) ∧ PySem.W.findIn X.K (.ref (F.G.ca c)) x = some (some (.ref f)) ∧ PySem.W.isFn X.K (.ref f) = true ∧ PySem.W.fnIn X.K f = true ∧ Binds X.K fd ps [] := by
  obtain ⟨f, fd, ps, j, hj, ok, h⟩ := K.ex
  obtain ⟨h1, h2, h3, h4, h5, _⟩ := F.hX X hX
  rw [← h1, ← h2, ← h3, ← h4, ← h5] at ok
  rw [← h3] at h
  exact ⟨f, fd, ps, j, hj, ok, h⟩
abbrev FsD := List (Str × D)
def spI (G : GG) (c : Nat) (m : List D → M FsD) : Sp := fun vs H Q E => ∃ S H1 ds x dx rest, vs = .ref x :: rest ∧ H = upd (upd H1 dx (.own x)) x (.ins (G.ca c) dx []) ∧ H1 x = none ∧ H1 dx = none ∧ dx ≠ x ∧ Ex S H1 ∧ Reps G S rest ds ∧
  Po G E S H1 (fun fs S' H' => S' x = none → OwnAt G H1 S' H' x (.obj c fs) → Q .non H') (m ds)
structure MkK (G : GG) (k c : Nat) (x : Str) (m : List D → M FsD) : Prop where
  ex : ∃ f fd ps j, j + 1 ≤ k ∧ FnOk G.P G.w G.K G.mg G.base (L2.CX G.P G.w) j f fd ps (spI G c m) ∧ G.mg x = some (.ref (G.ca c)) ∧ Mk G.K (G.ca c) f ∧ Binds G.K fd ps []
theorem MkK.mono {G : GG} {j k c : Nat} {x : Str} {m : List D → M FsD} (h : MkK G j c x m) (l : j ≤ k) : MkK G k c x m := by
  obtain ⟨f, fd, ps, i, hi, r⟩ := h.ex
  exact ⟨f, fd, ps, i, Nat.le_trans hi l, r⟩
def mkO (c : Nat) (m : List D → M FsD) (ds : List D) : M D := (m ds).bind fun fs => .ok (.obj c fs)
def tMakeS (C : Addr) (sp : Sp) (E : L2.St → XK) (t : TA) : TE := fun σ H Q => t σ H fun vs H1 => ∀ x dx, H1 x = none → H1 dx = none → dx ≠ x →
  sp (.ref x :: vs) (upd (upd H1 dx (.own x)) x (.ins C dx [])) (fun v H2 => v = .non ∧ Q (.ref x) H2) (E σ)
theorem run_makeS {X : Cx} {CX : CXT} {k : Nat} {f C : Addr} {fd : FuncData} {ps : List Str} {sp : Sp} {E : XK} {pins : List (Addr × Obj)} {σ : L2.St} {H : Hp} {s : Shared} {Q : VK} {us : List Value} {vs : List V} (M : Mk X.K C f) (F : FnOk X.prog X.w X.K X.mg X.base CX k f fd ps sp) (hr : Room (k + 1) X.A) (hb : Binds X.K fd ps [])
    (hx : PassesAt CX X σ E) (I : Inv X pins σ H s) (r : Vals vs us)
    (h : ∀ x dx, H x = none → H dx = none → dx ≠ x → sp (.ref x :: vs) (upd (upd H dx (.own x)) x (.ins C dx [])) (fun v H2 => v = .non ∧ Q (.ref x) H2) E) :
    wpAny (model X.prog X.w) X.A (call (.ref C) us) (EP X pins σ Q) X.xe s := by
  have hq := h (s.heap.objs.size + 1) s.heap.objs.size (I.hok.fresh (Nat.le_succ _)) (I.hok.fresh (Nat.le_refl _)) (Nat.ne_of_lt (Nat.lt_succ_self _))
  have I2 := Inv.made (C := C) I
  have r2 : Vals (V.ref (s.heap.objs.size + 1) :: vs) (Value.ref (s.heap.objs.size + 1) :: us) := .cons rfl r
  have hl : (Value.ref (s.heap.objs.size + 1) :: us).length = ps.length := by
    have e := r2.length
    rw [F.len _ _ _ _ hq] at e
    exact e.symm
  have b := hb _ (Value.ref (s.heap.objs.size + 1) :: us) I2.kIn (by rw [List.append_nil]; exact hl)
  rw [List.append_nil] at b
  refine wpAny_call (make_map (f := f) I.kIn M.makes M.init (beq_iff_eq.mp M.fn) (codeAny_mono (F.run _ X.stack _ _ ⟨Value.ref (s.heap.objs.size + 1) :: us, []⟩ (Value.ref (s.heap.objs.size + 1) :: us) _ _ E (hr.make C us [])
    (I2.env0.make C us []) b r2 hq) fun r s' hq' => ?_))
  cases r with
  | error e => exact hx pins _ _ e s' I2 hq'
  | ok fl =>
    cases fl with
    | ret u =>
      obtain ⟨v, H', I3, rv, ev, q3⟩ := I2.after hq'
      subst ev
      exact ⟨rv, ⟨V.ref (s.heap.objs.size + 1), H', I3, rfl, q3⟩⟩
    | next => exact False.elim hq'
    | brk => exact False.elim hq'
    | cont => exact False.elim hq'
theorem own_done {G : GG} {S H1 S' H' : Hp} {x : Addr} {c : Nat} {fs : FsD} (g : Grow S H1 S' H') (h1 : H1 x = none) (sx : S' x = none) (o : OwnAt G H1 S' H' x (.obj c fs)) : ∃ S'', Grow S H1 S'' H' ∧ Rep G S'' (.ref x) (.obj c fs) := by
  obtain ⟨dx, vs, e1, e2, e3, e4, n, r⟩ := o
  have ne : dx ≠ x := fun z => by subst z; rw [e1] at e2; cases e2
  have q1 : Ex S' (upd S' dx (.own x)) := ex_upd e3
  have q2 : Ex (upd S' dx (.own x)) (upd (upd S' dx (.own x)) x (.ins (G.ca c) dx vs)) := ex_upd (by rw [upd_ne (Ne.symm ne)]; exact sx)
  refine ⟨upd (upd S' dx (.own x)) x (.ins (G.ca c) dx vs), ⟨(g.s.trans q1).trans q2, g.h, fun a u q => ?_, fun p z1 z2 => ?_⟩, .obj upd_same (by rw [upd_ne ne, upd_same]) n ((r.mono q1).mono q2)⟩
  · by_cases za : a = x
    · subst za; rw [upd_same] at q; rw [e1]; exact q
    · rw [upd_ne za] at q
      by_cases zd : a = dx
      · subst zd; rw [upd_same] at q; rw [e2]; exact q
      · rw [upd_ne zd] at q; exact g.sub a u q
  · have n1 : p ≠ x := fun z => by subst z; exact z1.ne h1
    have n2 : p ≠ dx := fun z => by subst z; exact z1.ne e4
    rw [upd_ne n1, upd_ne n2]
    exact g.sep p z1 z2
theorem em_make {c : Nat} {x : Str} {m : List D → M FsD} {ml : M (List D)} {p : Pos} (K : MkK F.G F.k c x m) (hcm : F.cm = true) (hg : F.kd.lookup x = some .globalImplicit) (ha : AM F (e :: es) Γ ml) (hdb : (x == ("__debug__" : Str)) = false := by decide)
    (he : ∀ X, F.Xs X → starEach (e :: es) X.env = (false, eval e X.env) :: starEach es X.env := by intros; rfl) (hpl : ∀ X, F.Xs X → (backTo pos (starEach es X.env)).any (·.1) = false := by intros; rfl) : EM F (.Call (.Name x p) (e :: es) [] pos) Γ (b1 (mkO c m) ml) := by
  obtain ⟨t, q, g⟩ := ha
  refine ⟨tMakeS (F.G.ca c) (spI F.G c m) (WE F.W) t, fun X hX => ⟨fun pins s σ H Q I h => ?_⟩, fun H0 σ S H Q hh po => ?_⟩
  · obtain ⟨f, fd, ps, j, hj, ok, hm, M, hb⟩ := K.ex
    obtain ⟨h1, h2, h3, h4, h5, _⟩ := F.hX X hX
    rw [← h1, ← h2, ← h3, ← h4, ← h5] at ok
    rw [← h4] at hm
    rw [← h3] at M hb
    refine wpAny_Call_Name_kw (ld_glob I (F.gl X hX hg) hm ?_ hdb)
    refine PySem.W.callWith_K (h₀ := X.base) I.ok.mod.kin M.kp (thn ((q X hX).run pos pins s σ H _ I h) fun us s1 ⟨vs, H1, I1, r, q⟩ => ⟨I1.kIn, ?_⟩) (he X hX) (hpl X hX)
    exact run_makeS M ok ((F.hr hcm X hX).mono hj) hb (passAt (F.tk X hX) σ) I1 r q
  · refine g H0 σ S H _ hh (Po.bind po |>.imp fun ds S1 H1 g1 k vs r x dx hx hdx ne => ?_)
    refine ⟨S1, H1, ds, x, dx, vs, rfl, rfl, hx, hdx, ne, g1.sub, r, ?_⟩
    unfold mkO at k
    revert k
    cases m ds with
    | stk => exact fun k => k
    | exn e => exact fun k => k
    | ok fs =>
      intro k S2 H2 g2 sx o
      obtain ⟨S3, g3, rep⟩ := own_done g2 hx sx o
      exact ⟨rfl, k S3 H2 g3 _ rep⟩
def putFD (f : Str) (v : D) : FsD → FsD
  | [] => [(f, v)]
  | (g, x) :: r => if g = f then (g, v) :: r else (g, x) :: putFD f v r
theorem putF_rep {G : GG} {S : Hp} {f : Str} {v : V} {d : D} (h : Rep G S v d) : ∀ {vs : List (Str × V)} {fs : FsD}, vs.map (·.1) = fs.map (·.1) → Reps G S (vs.map (·.2)) (fs.map (·.2)) → (putF f v vs).map (·.1) = (putFD f d fs).map (·.1) ∧ Reps G S ((putF f v vs).map (·.2)) ((putFD f d fs).map (·.2))
  | [], [], _, _ => ⟨rfl, .cons h .nil⟩
  | (a, u) :: vs, (b, x) :: fs, n, .cons q r => by
    obtain ⟨n1, n2⟩ := List.cons.inj n
    have n1 : a = b := n1
    subst n1
    unfold putF putFD
    by_cases z : a = f
    · rw [if_pos z, if_pos z]
      exact ⟨congrArg (a :: ·) n2, .cons h r⟩
    · rw [if_neg z, if_neg z]
      obtain ⟨i1, i2⟩ := putF_rep h n2 r
      exact ⟨congrArg (a :: ·) i1, .cons q i2⟩
  | [], _ :: _, n, _ => by cases n
  | _ :: _, [], n, _ => by cases n
def fsetM (f : Str) (fs : FsD) (m : M D) : M FsD := m.bind fun y => if fs.length < 1000 then .ok (putFD f y fs) else .stk
theorem bm_fset {c : Nat} {f n : Str} {x : Addr} {ff : FsD} {p1 p2 : Pos} {k : FsD → Ctl X S} (i : Nat) (K : Fld F.G c f) (hn : F.N[i]? = some n) (hv : F.V[i]? = some true) (hΓ : Γ[i]? = some (Sl.own (.slf x c ff))) (he : EM F e Γ m) (w : Weak Γ (fx x0))
    (hr : ∀ ff', BM F rest (Γ.set i (Sl.own (.slf x c ff'))) ((k ff').out fx fs)) (hd : (n == ("__debug__" : Str)) = false := by decide) (hcd : (n == ("__classdict__" : Str)) = false := by decide)
    (hs : ∀ X, F.Xs X → swapsWith e (some (.Attribute (.Name n p1) f p2)) pos.line X.env = pure false := by intros; rfl) :
    BM F (.Assign [.Attribute (.Name n p1) f p2] e pos :: rest) Γ (((fsetM f ff m).bindC x0 k).out fx fs) := by
  obtain ⟨t, q, g⟩ := he
  refine bm_cons (t := sFld F.G.K (tVar i) t f) (fun X hX => ?_) fun S0 H0 Dn σ S H gr hh po => ?_
  · have hp := ps_fld (X := X) (pos := pos) (pos' := p2) (f := f) (ha := pe_var (i := i) (pos := p1) (by rw [F.hN X hX]; exact hn) (F.vis X hX i n hv hn) hd hcd) (q X hX) (hs X hX)
    rw [F.hK X hX] at hp
    exact hp
  · have po := opo_bind gr hh w po
    refine g H0 σ S H _ hh ((Po.bind po).imp fun y S1 H1 g1 k1 v r => ?_)
    obtain ⟨hl, k2⟩ := Po.gate (m := M.ok (putFD f y ff)) k1
    have h1 := hh.grow g1
    obtain ⟨a, ha, hs0, hh0, oa⟩ := h1.own i _ hΓ
    obtain ⟨hax, dx, vs, e1, e2, e3, e4, nn, rr⟩ := oa
    obtain ⟨gk, _, pk⟩ := Po.ok g1.sub k2
    have hlen : vs.length = ff.length := by have := congrArg List.length nn; simpa using this
    refine ⟨.ref a, ha, a, _, dx, vs, rfl, e1, K.cl, K.no, by rw [hlen]; exact hl, ?_⟩
    obtain ⟨n2, r2⟩ := putF_rep (f := f) r nn rr
    have ne : dx ≠ a := fun z => by subst z; rw [e1] at e2; cases e2
    exact (hr _).c S0 H0 Dn σ S1 _ (gk.own hs0 hh0) (h1.ownUpd (d' := .slf x c (putFD f y ff)) hΓ ha hs0 hh0 (fun b z => by rw [e1] at z; cases z) ⟨hax, dx, _, upd_same, by rw [upd_ne ne]; exact e2, e3, e4, n2, r2⟩) pk
end
def Ctl.toF {X : Type} : Ctl X FsD → M FsD
  | .stk => .stk
  | .exn e _ => .exn e
  | .ret _ => .stk
  | .nx d => .ok d
theorem init_ok {G : GG} {c : Nat} {name qual : Str} {st : Stmt} {f : Addr} {fd : FuncData} {N ps : List Str} {k : Nat} {m : List D → M FsD} (V : List Bool) (kd : List (Str × NameKind)) (Fn : Fun G.K name qual st f fd) (Sc : FnScope N ps (defScope st))
    (hv : visL N V kd = true) (hkd : (defScope st).names = kd) (har : ∀ ds, m ds ≠ .stk → ds.length + 1 = ps.length)
    (hB : ∀ x cdv A outer s H E hr ds, ds.length + 1 = ps.length → ∃ cc : Ctl Unit FsD, m ds = cc.toF ∧ BM (mkF G Sc V kd hv hkd k qual f cdv A outer s H E hr) (defBody st) (Sl.own (.slf x c []) :: (ds.map Sl.val ++ List.replicate (N.length - (ds.length + 1)) Sl.unk)) (cc.out (fun _ => []) (fun d => Sl.own (.slf x c d) :: List.replicate (N.length - 1) Sl.unk))) :
    FnOk G.P G.w G.K G.mg G.base (L2.CX G.P G.w) (k + 1) f fd ps (spI G c m) := by
  have hpl : ps.length ≤ N.length := by have := congrArg List.length Sc.pre; rw [List.length_take] at this; omega
  refine Fun.okX Fn Sc (fun vs H Q E h => ?_) (fun cdv A outer s H vs Q E hr h => ?_)
  · obtain ⟨S, H1, ds, x, dx, rest, rfl, rfl, hx, hdx, ne, e, r, p⟩ := h
    show rest.length + 1 = _
    rw [r.length]
    exact har ds fun z => by rw [z] at p; exact p
  · obtain ⟨S, H1, ds, x, dx, rest, rfl, rfl, hx, hdx, ne, e, r, p⟩ := h
    have hl : ds.length + 1 = ps.length := har ds fun z => by rw [z] at p; exact p
    obtain ⟨cc, hc, t, ht, d⟩ := hB x cdv A outer s _ E hr ds hl
    refine ⟨t, ht _ rfl, ?_⟩
    have g1 : Grow S H1 S (upd H1 dx (.own x)) := Grow.newOwn e hdx
    have hx2 : upd H1 dx (.own x) x = none := by rw [upd_ne (Ne.symm ne)]; exact hx
    have g2 : Grow S H1 S (upd (upd H1 dx (.own x)) x (.ins (G.ca c) dx [])) := g1.trans (Grow.newOwn g1.sub hx2)
    have st0 := starts (N := N) e (.cons .non r) (by show rest.length + 1 ≤ _; rw [r.length]; omega)
    have st1 : Holds G H1 (L2.start N (.ref x :: rest)) S _ (Sl.own (.slf x c []) :: (ds.map Sl.val ++ List.replicate (N.length - (ds.length + 1)) Sl.unk)) :=
      st0.setOwn (i := 0) (p := x) (d := .slf x c []) g2 (sub_none e hx) hx ⟨rfl, dx, [], upd_same, by rw [upd_ne ne, upd_same], sub_none e hdx, hdx, rfl, .nil⟩
    refine d S H1 _ (L2.start N (.ref x :: rest)) S _ g2 st1 ?_
    rw [hc] at p
    cases cc with
    | stk => exact p
    | exn x u => exact fun cls dd σ S' H' g _ rx => p cls dd S' H' g rx
    | ret d => exact False.elim p
    | nx d' =>
      intro σ S' H' g hh
      obtain ⟨q, hq, hs, h0, rfl, oa⟩ := hh.own 0 _ rfl
      exact p S' H' g hs oa
end Mir
namespace Mir
open PySem PySem.Spec L2
open PyProof.Rows (envOfC)
def entOk : List DictEntry → List (Int × Int) → Bool
  | [], [] => true
  | e :: es, (k, v) :: r => (match e.key with | .int i _ => decide (i = k) | _ => false) && decide (e.hash = hashInt k) && (match e.val with | .int i _ => decide (i = v) | _ => false) && entOk es r
  | _, _ => false
def kdOk (K : PySem.W.Frag) (a : Addr) (kvs : List (Int × Int)) : Bool := match K.lookup a with
  | some ⟨.type t, none, .dict es _, sl⟩ => t == "dict" && sl.toList.isEmpty && entOk es.toList kvs && !(a == sysModules) && decide ((kvs.map (·.1)).Nodup)
  | _ => false
structure KdI (G : GG) (x : Str) (kvs : List (Int × Int)) : Prop where
  ex : ∃ a, G.mg x = some (.ref a) ∧ kdOk G.K a kvs = true
  db : (x == ("__debug__" : Str)) = false
theorem entOk_pairs {P : Program} {w : World} : ∀ {es : List DictEntry} {kvs : List (Int × Int)}, entOk es kvs = true → ∃ vs : List (Key × Value), Pairs (mixKind P w) es vs ∧ vs.map (·.1) = kvs.map (fun p => (Sum.inl p.1 : Key)) ∧
    (∀ e ∈ es, ∃ k, (mixKind P w).is k e.key = true ∧ e.hash = (mixKind P w).hash k) ∧ (∀ i v, kvs.lookup i = some v → ∃ t, valueAt vs (.inl i) = some (.int v t)) ∧ (∀ i, kvs.lookup i = none → valueAt vs (.inl i) = none)
  | [], [], _ => ⟨[], .nil, rfl, fun e he => absurd he (by simp), fun i v h => (by cases h), fun i _ => rfl⟩
  | e :: es, (k, v) :: r, h => by
    unfold entOk at h
    rw [Bool.and_eq_true, Bool.and_eq_true, Bool.and_eq_true] at h
    obtain ⟨⟨⟨h1, h2⟩, h3⟩, h4⟩ := h
    obtain ⟨vs, p1, p2, p3, p4, p5⟩ := entOk_pairs (P := P) (w := w) h4
    split at h1
    · rename_i i t hk
      have h1 := of_decide_eq_true h1
      subst h1
      split at h3
      · rename_i j u hv
        have h3 := of_decide_eq_true h3
        subst h3
        have kis : (mixKind P w).is (Sum.inl i) e.key = true := by rw [hk]; exact keyIs_int i t
        refine ⟨(.inl i, e.val) :: vs, .cons kis rfl p1, by simp [p2], fun e' he => ?_, fun i' v' h' => ?_, fun i' h' => ?_⟩
        · rcases List.mem_cons.mp he with z | z
          · subst z; exact ⟨.inl i, kis, of_decide_eq_true h2⟩
          · exact p3 e' z
        · rw [List.lookup_cons] at h'
          unfold valueAt
          rw [List.find?_cons]
          by_cases z : i' = i
          · subst z
            simp only [beq_self_eq_true] at h'
            cases h'
            simp only [decide_true, Option.map]
            exact ⟨u, by rw [hv]⟩
          · have zb : (i' == i) = false := by simpa using z
            rw [zb] at h'
            have zd : decide ((Sum.inl i : Key) = Sum.inl i') = false := decide_eq_false fun q => z (Sum.inl.inj q).symm
            simp only [zd]
            exact p4 i' v' h'
        · rw [List.lookup_cons] at h'
          unfold valueAt
          rw [List.find?_cons]
          by_cases z : i' = i
          · subst z
            simp only [beq_self_eq_true] at h'
            cases h'
          · have zb : (i' == i) = false := by simpa using z
            rw [zb] at h'
            have zd : decide ((Sum.inl i : Key) = Sum.inl i') = false := decide_eq_false fun q => z (Sum.inl.inj q).symm
            simp only [zd]
            exact p5 i' h'
      · cases h3
    · cases h1
  | [], _ :: _, h => by cases h
  | _ :: _, [], h => by cases h
theorem kd_dict {X : Cx} {pins : List (Addr × Obj)} {σ : L2.St} {H : Hp} {s : Shared} {a : Addr} {kvs : List (Int × Int)} (I : Inv X pins σ H s) (h : kdOk X.K a kvs = true) :
    (a == sysModules) = false ∧ ∃ vs, s.heap.DictOf (mixKind X.prog X.w) a vs ∧ (∀ i v, kvs.lookup i = some v → ∃ t, valueAt vs (.inl i) = some (.int v t)) ∧ (∀ i, kvs.lookup i = none → valueAt vs (.inl i) = none) := by
  unfold kdOk at h
  split at h
  · rename_i t es n sl ho
    simp only [Bool.and_eq_true, beq_iff_eq, Bool.not_eq_true', decide_eq_true_eq] at h
    obtain ⟨⟨⟨⟨rfl, hsl⟩, h1⟩, h2⟩, h3⟩ := h
    have hsl : sl = #[] := by
      obtain ⟨l⟩ := sl
      cases l with
      | nil => rfl
      | cons _ _ => cases hsl
    subst hsl
    obtain ⟨vs, p1, p2, p3, p4, p5⟩ := entOk_pairs (P := X.prog) (w := X.w) h1
    refine ⟨by simpa using h2, vs, ⟨_, es, n, I.kIn _ _ ho, ⟨rfl, rfl, rfl⟩, rfl, fun e he => p3 e (by simpa using he), p1, ?_⟩, p4, p5⟩
    rw [p2]
    have := h3
    rw [List.nodup_iff_pairwise_ne] at *
    rw [List.pairwise_map] at this ⊢
    exact this.imp fun q z => q (Sum.inl.inj z)
  · cases h
def kdGet (kvs : List (Int × Int)) : D → M D
  | .int i => (ofOpt (kvs.lookup i)).bind fun v => .ok (.int v)
  | _ => .stk
def kdIn (kvs : List (Int × Int)) (neg : Bool) : D → M D
  | .int i => .ok (.bl (if neg then !(kvs.lookup i).isSome else (kvs.lookup i).isSome))
  | _ => .stk
section
variable {F : Fm} {Γ : Gam} {b : Expr} {mb : M D} {x : Str} {kvs : List (Int × Int)} {pos p : Pos}
theorem em_kdIx (K : KdI F.G x kvs) (hg : F.kd.lookup x = some .globalImplicit) (hb : EM F b Γ mb) (hs : PlainIx b) : EM F (.Subscript (.Name x p) b pos) Γ (b1 (kdGet kvs) mb) := by
  obtain ⟨a, hm, hk⟩ := K.ex
  obtain ⟨tb, pb, eb⟩ := hb
  refine ⟨fun σ H Q => tb σ H fun y H1 => ∃ i v, y = .int i ∧ kvs.lookup i = some v ∧ Q (.int v) H1, fun X hX => ⟨fun pins s σ H Q I h => ?_⟩, fun H0 σ S H Q hh po => ?_⟩
  · obtain ⟨h1, h2, h3, h4, h5, h6⟩ := F.hX X hX
    refine subD_of PySem.F.slot_dict_getitem.lookup hs (ld_glob I (F.gl X hX hg) (by rw [h4]; exact hm) ?_ K.db)
    refine thn ((pb X hX).run pins s σ H _ I h) fun iv s2 ⟨y, H2, I2, ry, i, v, ey, hl, q2⟩ => ?_
    subst ey
    obtain ⟨t, rfl⟩ := ry
    obtain ⟨hd, vs, dd, g1, _⟩ := kd_dict I2 (by rw [h3]; exact hk)
    obtain ⟨t2, hv⟩ := g1 i v hl
    exact ⟨dd.typeIs, wpAny_getItem_of (knd := mixKind X.prog X.w) (k := .inl i) (keyIs_int i t) dd.mapOf hv ⟨.int v, H2, I2.tok _, ⟨t2, rfl⟩, q2⟩⟩
  · refine eb H0 σ S H _ hh ((Po.bind po).imp fun y S1 H1 g1 k1 v r => ?_)
    cases y with
    | int i =>
      obtain ⟨w, hw, k2⟩ := Po.opt (o := kvs.lookup i) k1
      cases r
      exact ⟨i, w, rfl, hw, k2.ok g1.sub _ (.int w)⟩
    | _ => exact False.elim k1
def rKdIn (K : PySem.W.Frag) (kvs : List (Int × Int)) (neg : Bool) : R2 := fun x y H Q => ∃ a i, x = .int i ∧ y = .ref a ∧ kdOk K a kvs = true ∧ Q (.bl (if neg then !(kvs.lookup i).isSome else (kvs.lookup i).isSome)) H
theorem kd_some {kvs : List (Int × Int)} {vs : List (Key × Value)} {i : Int} (g1 : ∀ i v, kvs.lookup i = some v → ∃ t, valueAt vs (.inl i) = some (.int v t)) (g2 : ∀ i, kvs.lookup i = none → valueAt vs (.inl i) = none) : (valueAt vs (.inl i : Key)).isSome = (kvs.lookup i).isSome := by
  cases q : kvs.lookup i with
  | none => rw [g2 i q]; rfl
  | some v => obtain ⟨t, e⟩ := g1 i v q; rw [e]; rfl
theorem op_kdNi {X : Cx} {kvs : List (Int × Int)} : OpR X (compareOp .NotIn) (rKdIn X.K kvs true) := by
  intro pins s σ H x y v u Q I rx ry ⟨a, i, ex, ey, hk, q⟩
  subst ex ey
  obtain ⟨t, rfl⟩ := rx
  obtain rfl : u = Value.ref a := ry
  obtain ⟨hd, vs, dd, g1, g2⟩ := kd_dict I hk
  refine wpAny_notIn_of (knd := mixKind X.prog X.w) (k := .inl i) (keyIs_int i t) hd dd.mapOf ?_
  rw [kd_some g1 g2]
  exact ⟨.bl _, H, I.tok _, rfl, q⟩
theorem tm_kdC {e : Expr} {me : M D} {op : CmpOp} {neg : Bool} (ho : ∀ X, F.Xs X → OpR X (compareOp op) (rKdIn F.G.K kvs neg)) (K : KdI F.G x kvs) (hg : F.kd.lookup x = some .globalImplicit) (he : EM F e Γ me) (hm : behindInMarks op (.Name x p) = false) :
    TM F (.Compare e [op] [.Name x p] pos) Γ (b1 isB (b1 (kdIn kvs neg) me)) := by
  obtain ⟨a, hma, hk⟩ := K.ex
  obtain ⟨t, pt, f⟩ := he
  refine ⟨tTest (tOp (rKdIn F.G.K kvs neg) t (tC (.ref a))), fun X hX => ?_, fun H0 σ S H Q hh po => ?_⟩
  · obtain ⟨h1, h2, h3, h4, h5, h6⟩ := F.hX X hX
    exact pt_cmpR (ho X hX) (pt X hX) (pe_glob (F.gl X hX hg) (by rw [h4]; exact hma) rfl K.db) hm
  · refine f H0 σ S H _ hh ((Po.bind (Po.bind po)).imp fun y S1 H1 g1 k1 v r => ?_)
    cases y with
    | int i =>
      cases r
      have k2 : Po F.G (WE F.W σ) S1 H1 (KT Q) (.ok (if neg then !(kvs.lookup i).isSome else (kvs.lookup i).isSome)) := Po.ok (a := D.bl (if neg then !(kvs.lookup i).isSome else (kvs.lookup i).isSome)) g1.sub k1
      exact ⟨a, i, rfl, rfl, hk, _, rfl, k2.ok g1.sub⟩
    | _ => exact False.elim k1
theorem ok_kdn {kvs : List (Int × Int)} (X : Cx) (hX : F.Xs X) : OpR X (compareOp .NotIn) (rKdIn F.G.K kvs true) := by
  have h := op_kdNi (X := X) (kvs := kvs)
  rw [F.hK X hX] at h
  exact h
end
end Mir
namespace Mir
open PySem PySem.Spec L2
open PyProof.Rows (envOfC)
def swp (T : Hp) (p : Addr) (o : HO) : Hp := fun a => if a = p then (match T p with | none => none | some _ => some o) else T a
theorem swp_ne {T : Hp} {p a : Addr} {o : HO} (h : a ≠ p) : swp T p o a = T a := by unfold swp; rw [if_neg h]
theorem swp_at {T : Hp} {p : Addr} {o u : HO} (h : T p = some u) : swp T p o p = some o := by unfold swp; rw [if_pos rfl, h]
theorem swp_non {T : Hp} {p a : Addr} {o : HO} (h : T a = none) : swp T p o a = none := by
  unfold swp
  split
  · rename_i e; subst e; rw [h]
  · exact h
def isDic : HO → Bool
  | .dT _ => true
  | .dK _ => true
  | _ => false
def DicAt (S : Hp) (p : Addr) (u : HO) : Prop := S p = some u ∨ ∃ od, S p = some (.frz od u)
theorem DicAt.swp {S : Hp} {p : Addr} {u o : HO} (h : DicAt S p u) (ho : o = u ∨ ∃ od, o = .frz od u) : DicAt (swp S p o) p u := by
  have e : Mir.swp S p o p = some o := by rcases h with h | ⟨od, h⟩ <;> exact swp_at h
  rcases ho with rfl | ⟨od, rfl⟩
  · exact .inl e
  · exact .inr ⟨od, e⟩
theorem rd_swp {S : Hp} {p q : Addr} {u o x : HO} (hu : isDic u = true) (h : DicAt S p u) (ho : o = u ∨ ∃ od, o = .frz od u) (hx : ∀ od y, x ≠ .frz od y) (r : Rd S q x) : Rd (swp S p o) q x := by
  by_cases z : q = p
  · subst z
    have ex : x = u := by
      rcases r with r | ⟨ob, r⟩
      · rcases h with h | ⟨od, h⟩
        · rw [h] at r; cases r; rfl
        · rw [h] at r; cases r; exact absurd rfl (hx _ _)
      · rcases h with h | ⟨od, h⟩
        · rw [h] at r; cases r; cases hu
        · rw [h] at r; cases r; rfl
    subst ex
    exact (h.swp ho)
  · rcases r with r | ⟨ob, r⟩
    · exact .inl (by rw [swp_ne z]; exact r)
    · exact .inr ⟨ob, by rw [swp_ne z]; exact r⟩
theorem off_dic {S : Hp} {p q : Addr} {u x : HO} (hu : isDic u = true) (h : DicAt S p u) (hx : isDic x = false) (hf : ∀ od y, x ≠ .frz od y) (e : S q = some x) : q ≠ p := fun z => by
  subst z
  rcases h with h | ⟨od, h⟩
  · rw [h] at e; cases e; rw [hu] at hx; cases hx
  · rw [h] at e; cases e; exact hf _ _ rfl
section
variable {G : GG} {S : Hp} {p : Addr} {u o : HO}
mutual
theorem Rep.swp (hu : isDic u = true) (h : DicAt S p u) (ho : o = u ∨ ∃ od, o = .frz od u) : ∀ {v : V} {d : D}, Rep G S v d → Rep G (Mir.swp S p o) v d
  | _, _, .non => .non
  | _, _, .bl b => .bl b
  | _, _, .int i => .int i
  | _, _, .str x => .str x
  | _, _, .adr a => .adr a
  | _, _, .kt k r => .kt k r
  | _, _, .tup e r => .tup (by rw [swp_ne (off_dic hu h rfl (fun _ _ z => by cases z) e)]; exact e) (Reps.swp hu h ho r)
  | _, _, .lst e r => .lst (by rw [swp_ne (off_dic hu h rfl (fun _ _ z => by cases z) e)]; exact e) (Reps.swp hu h ho r)
  | _, _, .scr e => .scr (e.elim (fun e => .inl (rd_swp hu h ho (fun _ _ z => by cases z) e)) .inr)
  | _, _, .dct e n r => .dct (rd_swp hu h ho (fun _ _ z => by cases z) e) n (Reps.swp hu h ho r)
  | _, _, .dks e n r => .dks (rd_swp hu h ho (fun _ _ z => by cases z) e) n (Reps.swp hu h ho r)
  | _, _, .obj e k n r => .obj (by rw [swp_ne (off_dic hu h rfl (fun _ _ z => by cases z) e)]; exact e) (by rw [swp_ne (off_dic hu h rfl (fun _ _ z => by cases z) k)]; exact k) n (Reps.swp hu h ho r)
  | _, _, .slf e k n r => .slf (by rw [swp_ne (off_dic hu h rfl (fun _ _ z => by cases z) e)]; exact e) (by rw [swp_ne (off_dic hu h rfl (fun _ _ z => by cases z) k)]; exact k) n (Reps.swp hu h ho r)
theorem Reps.swp (hu : isDic u = true) (h : DicAt S p u) (ho : o = u ∨ ∃ od, o = .frz od u) : ∀ {vs : List V} {ds : List D}, Reps G S vs ds → Reps G (Mir.swp S p o) vs ds
  | _, _, .nil => .nil
  | _, _, .cons e r => .cons (Rep.swp hu h ho e) (Reps.swp hu h ho r)
end
theorem ex_swp {S H : Hp} (e : Ex S H) : Ex (swp S p o) (swp H p o) := fun a x q => by
  by_cases z : a = p
  · subst z
    cases w : S a with
    | none => rw [swp_non w] at q; cases q
    | some y => rw [swp_at w] at q; rw [swp_at (e a y w)]; exact q
  · rw [swp_ne z] at q ⊢
    exact e a x q
theorem OwnAt.swp {H0 H : Hp} {q : Addr} {d : D} (hu : isDic u = true) (h : DicAt S p u) (hH : DicAt H p u) (ho : o = u ∨ ∃ od, o = .frz od u) (hq : q ≠ p) (w : OwnAt G H0 S H q d) : OwnAt G (Mir.swp H0 p o) (Mir.swp S p o) (Mir.swp H p o) q d := by
  have ne : ∀ {a : Addr}, H a = some (.own q) → a ≠ p := fun {a} e => off_dic hu hH rfl (fun _ _ z => by cases z) e
  cases d with
  | lst ds => obtain ⟨vs, e, r⟩ := w; exact ⟨vs, by rw [swp_ne hq]; exact e, r.swp hu h ho⟩
  | dct ds => obtain ⟨vs, e, n, r⟩ := w; exact ⟨vs, by rw [swp_ne hq]; exact e, n, r.swp hu h ho⟩
  | dks ds => obtain ⟨vs, e, n, r⟩ := w; exact ⟨vs, by rw [swp_ne hq]; exact e, n, r.swp hu h ho⟩
  | obj c fs => obtain ⟨dx, vs, e, e2, e3, e4, n, r⟩ := w; exact ⟨dx, vs, by rw [swp_ne hq]; exact e, by rw [swp_ne (ne e2)]; exact e2, swp_non e3, swp_non e4, n, r.swp hu h ho⟩
  | slf a c fs => obtain ⟨hp, dx, vs, e, e2, e3, e4, n, r⟩ := w; exact ⟨hp, dx, vs, by rw [swp_ne hq]; exact e, by rw [swp_ne (ne e2)]; exact e2, swp_non e3, swp_non e4, n, r.swp hu h ho⟩
  | _ => exact False.elim w
theorem Holds.swp {H0 H : Hp} {σ : L2.St} {Γ : Gam} (hu : isDic u = true) (h : DicAt S p u) (ho : o = u ∨ ∃ od, o = .frz od u) (w : Holds G H0 σ S H Γ) : Holds G (Mir.swp H0 p o) σ (Mir.swp S p o) (Mir.swp H p o) Γ where
  ex := ex_swp w.ex
  e0 := ex_swp w.e0
  len := w.len
  val := fun i d e => let ⟨v, a, b⟩ := w.val i d e; ⟨v, a, b.swp hu h ho⟩
  own := fun i d e => by
    obtain ⟨q, a, b, c, oa⟩ := w.own i d e
    have hq : q ≠ p := fun z => by subst z; rcases h with h | ⟨od, h⟩ <;> (rw [h] at b; cases b)
    exact ⟨q, a, swp_non b, swp_non c, oa.swp hu h (h.imp (w.ex _ _) fun ⟨od, e⟩ => ⟨od, w.ex _ _ e⟩) ho hq⟩
  dis := w.dis
  ref := fun i a e => ⟨(w.ref i a e).1, fun dd fs z => let ⟨vs, q, n, r⟩ := (w.ref i a e).2 dd fs z; ⟨vs, by rw [swp_ne (off_dic hu h rfl (fun _ _ z => by cases z) q)]; exact q, n, r.swp hu h ho⟩⟩
end
section
variable {F : Fm} {Γ : Gam} {X Y S J : Type} {fx : X → Gam} {fy : Y → Gam} {fs : S → Gam} {fj : J → Gam} {x0 : X} {pos : Pos} {rest body : List Stmt}
end
end Mir
namespace Mir
open PySem PySem.Spec L2
open PyProof.Rows (envOfC)
def arF1 (c : D → Ctl Unit FsD) : List D → M FsD
  | [a] => (c a).toF
  | _ => .stk
theorem arF1_len {c : D → Ctl Unit FsD} (ds : List D) (h : arF1 c ds ≠ .stk) : ds.length = 1 := by
  unfold arF1 at h
  split at h
  · rfl
  · exact absurd rfl h
end Mir
namespace Mir
open PySem PySem.Spec L2
open PyProof.Rows (envOfC)
def SitP (it : Addr) (x : Str) (h : Heap) : Prop := ∃ ty t, (ty = "str_ascii_iterator" ∨ ty = "str_iterator") ∧ h.IsStrIter it ty x t 0
def SitO (it : Addr) (x : Str) : HO := .ext (SitP it x)
def spIt (G : GG) (c : Nat) (f : Str) : Sp := fun vs H Q _ => ∃ a dx fs x, vs = [.ref a] ∧ H a = some (.ins (G.ca c) dx fs) ∧ fs.lookup f = some (.str x) ∧ ∀ it, H it = none → (∀ b u, H b = some u → b < it) → Q (.ref it) (upd H it (SitO it x))
structure ItS (K : PySem.W.Frag) (C fi : Addr) : Prop where
  it : PySem.W.findIn K (.ref C) "__iter__" = some (some (.ref fi))
  itF : PySem.W.isFn K (.ref fi) = true
  nolen : PySem.W.findIn K (.ref C) "__len__" = some none
  nohint : PySem.W.findIn K (.ref C) "__length_hint__" = some none
section
variable {X : Cx} {pins : List (Addr × Obj)} {σ : L2.St} {H : Hp} {s : Shared} {G : GG} {c n : Nat} {f : Str} {fi a q it : Addr} {fdI : FuncData} {psI : List Str}
end
end Mir
namespace Mir
open PySem PySem.Spec L2
open PyProof.Rows (envOfC)
structure ItK (G : GG) (k c : Nat) (f : Str) : Prop where
  ex : ∃ fi fd ps j, j + 2 ≤ k ∧ FnOk G.P G.w G.K G.mg G.base (L2.CX G.P G.w) j fi fd ps (spIt G c f) ∧ ItS G.K (G.ca c) fi ∧ Binds G.K fd ps []
theorem ItK.mono {G : GG} {j k c : Nat} {f : Str} (h : ItK G j c f) (l : j ≤ k) : ItK G k c f := by
  obtain ⟨fi, fd, ps, i, hi, r⟩ := h.ex
  exact ⟨fi, fd, ps, i, Nat.le_trans hi l, r⟩
end Mir
namespace Mir
open PySem PySem.Spec L2
open PyProof.Rows (envOfC)
section
variable {K : PySem.W.Frag} {C D : Addr}
def insB (K : PySem.W.Frag) (C : Addr) : Bool := PySem.W.plainGet K C Str.empty && PySem.W.hasDictIn K C && PySem.W.plainOver K C && (PySem.W.findIn K (.ref C) "__setattr__" == some (some (.builtin "object.__setattr__"))) &&
  (PySem.W.findIn K (.ref C) "__class__" == some (some (.builtin "object.__class__"))) && (PySem.W.specialIn K (.builtin "object.__class__") "__get__" == some (some (.builtin "getset_descriptor.__get__"))) && (PySem.W.takesIn K (.builtin "object.__class__") == some true) && (PySem.W.mroIn K C (.type "object") == some true)
theorem insB_ok (h : insB K C = true) : Cls K C ∧ PySem.W.findIn K (.ref C) "__class__" = some (some (.builtin "object.__class__")) ∧
      PySem.W.specialIn K (.builtin "object.__class__") "__get__" = some (some (.builtin "getset_descriptor.__get__")) ∧ PySem.W.takesIn K (.builtin "object.__class__") = some true ∧ PySem.W.mroIn K C (.type "object") = some true := by
  unfold insB at h
  simp only [Bool.and_eq_true, beq_iff_eq] at h
  obtain ⟨⟨⟨⟨⟨⟨⟨a, b⟩, c⟩, d⟩, e⟩, f⟩, g⟩, i⟩ := h
  exact ⟨⟨a, b, c, d⟩, e, f, g, i⟩
def ktB (K : PySem.W.Frag) (ca : Nat → Addr) (cv : Value) (tb : List (String × Bool)) (ob : List (Nat × Bool)) : Bool := (tb.all fun p => decide (PySem.W.kitOne K (.type p.1) cv = some p.2)) && ob.all fun p => decide (PySem.W.kitOne K (.ref (ca p.1)) cv = some p.2) && insB K (ca p.1)
theorem lookup_mem {α β : Type} [BEq α] [LawfulBEq α] : ∀ {l : List (α × β)} {a : α} {b : β}, l.lookup a = some b → (a, b) ∈ l
  | [], _, _, h => by cases h
  | (x, y) :: r, a, b, h => by
    rw [List.lookup_cons] at h
    by_cases q : a == x
    · simp only [q] at h
      cases h
      rw [eq_of_beq q]
      exact List.mem_cons_self
    · have q : (a == x) = false := by simpa using q
      rw [q] at h
      exact List.mem_cons_of_mem _ (lookup_mem h)
end
theorem tyN_mk {G : GG} {x : Str} {tb : List (String × Bool)} {ob : List (Nat × Bool)} {cv : Value} {v : V} (h : G.mg x = some cv ∨ (G.mg x = none ∧ bootBuiltins x = some cv ∧ x ≠ "__name__")) (r : RelV v cv) (k : ClsV v cv) (hk : ktB G.K G.ca cv tb ob = true) (db : (x == ("__debug__" : Str)) = false) : TyN G x tb ob := by
  unfold ktB at hk
  rw [Bool.and_eq_true] at hk
  refine ⟨⟨cv, v, h, r, k, fun t b hl => ?_, fun c b hl => ?_⟩, db⟩
  · simpa using List.all_eq_true.mp hk.1 (t, b) (lookup_mem hl)
  · have := List.all_eq_true.mp hk.2 (c, b) (lookup_mem hl)
    rw [Bool.and_eq_true] at this
    exact ⟨by simpa using this.1, insB_ok this.2⟩
theorem kn_mk {G : GG} {lev : Nat} {x : Str} {m : List D → M D} {f : Addr} {fd : FuncData} {ps : List Str} (ok : FnOk G.P G.w G.K G.mg G.base (L2.CX G.P G.w) lev f fd ps (spM G m)) (hm : G.mg x = some (.ref f)) (hk : PySem.W.keepIn G.K (.ref f) = true) (hb : Binds G.K fd ps []) : Kn G lev x m := ⟨f, fd, ps, lev, Nat.le_refl _, ok, hm, hk, hb⟩
end Mir
namespace Mir
open PySem PySem.Spec L2
open PyProof.Rows (envOfC)
section
variable {F : Fm} {Γ : Gam} {X S : Type} {fx : X → Gam} {fs : S → Gam} {x0 : X} {a b c e o : Expr} {es : List Expr} {ma mb mc m mo me : M D} {pos apos : Pos} {rest : List Stmt}
end
end Mir
namespace Mir
open PySem PySem.Spec L2
open PyProof.Rows (envOfC)
section
variable {F : Fm} {Γ : Gam} {X S : Type} {fx : X → Gam} {fs : S → Gam} {x0 : X} {a b c e o : Expr} {es : List Expr} {ma mb mc m mo me : M D} {pos apos : Pos} {rest : List Stmt}
def bolsOf : List D → Option (List Bool)
  | [] => some []
  | .bl x :: ds => (bolsOf ds).map (x :: ·)
  | _ => none
theorem reps_bolsOf {G : GG} {S : Hp} : ∀ {ds : List D} {vs : List V} {ys : List Bool}, Reps G S vs ds → bolsOf ds = some ys → vs = ys.map V.bl
  | [], _, _, .nil, e => by cases e; rfl
  | d :: ds, _, _, .cons h r, e => by
    cases d with
    | bl x =>
      unfold bolsOf at e
      cases q : bolsOf ds with
      | none => rw [q] at e; cases e
      | some zs =>
        rw [q] at e
        cases e
        cases h
        rw [reps_bolsOf r q]
        rfl
    | _ => cases e
def pyAll : List D → M D
  | [.lst ds] => (ofOpt (bolsOf ds)).bind fun bs => .ok (.bl (bs.all id))
  | _ => .stk
theorem cm_all : CM F (rAll F.G.K) pyAll := by
  intro ds vs E S H Q ex r p
  match ds, r, p with
  | [.lst xs], r, p =>
    obtain ⟨v, rfl, h⟩ := reps1 r
    obtain ⟨bs, hn, p⟩ := Po.opt (o := bolsOf xs) p
    cases h with
    | lst h r =>
      rw [reps_bolsOf r hn] at h
      exact ⟨_, bs, rfl, SqL.of (ex _ _ h), p.ok ex _ (.bl _)⟩
theorem em_all {p : Pos} {ml : M (List D)} (hcm : F.cm = true) (hg : F.kd.lookup ("all" : Str) = some NameKind.globalImplicit) (hm : F.G.mg "all" = none) (ha : AM F (e :: es) Γ ml)
    (he : ∀ X, F.Xs X → starEach (e :: es) X.env = (false, eval e X.env) :: starEach es X.env := by intros; rfl) (hpl : ∀ X, F.Xs X → (backTo pos (starEach es X.env)).any (·.1) = false := by intros; rfl) : EM F (.Call (.Name "all" p) (e :: es) [] pos) Γ (b1 pyAll ml) :=
  em_callB (r := rAll F.G.K) (fun X hX => by have h := cr_all (X := X) (F.hc hcm X hX); rw [F.hK X hX] at h; exact h) cm_all hg hm (by decide +kernel) ha (by decide) (by decide) he hpl
def pyListRg : D → M D
  | .int n => if -(2 ^ 62) ≤ n ∧ n < 16777216 then .ok (.lst (rangeD 0 n.toNat)) else .stk
  | _ => .stk
theorem reps_rg {G : GG} {S : Hp} {n : Int} : Reps G S (rgV 0 n) (rangeD 0 n.toNat) := by
  unfold rgV rangeD
  rw [Int.sub_zero]
  generalize List.range n.toNat = l
  induction l with
  | nil => exact .nil
  | cons x l ih => exact .cons (.int _) ih
theorem em_listRg {p p1 pos1 : Pos} (hcm : F.cm = true) (hg : F.kd.lookup ("list" : Str) = some NameKind.globalImplicit) (hm : F.G.mg "list" = none) (hg1 : F.kd.lookup ("range" : Str) = some NameKind.globalImplicit) (hm1 : F.G.mg "range" = none) (ha : EM F a Γ ma)
    (na : ∀ X, F.Xs X → starEach [a] X.env = (false, eval a X.env) :: starEach [] X.env := by intros; rfl) (na1 : ∀ X, F.Xs X → starEach [.Call (.Name "range" p1) [a] [] pos1] X.env = (false, eval (.Call (.Name "range" p1) [a] [] pos1) X.env) :: starEach [] X.env := by intros; rfl) :
    EM F (.Call (.Name "list" p) [.Call (.Name "range" p1) [a] [] pos1] [] pos) Γ (b1 pyListRg ma) := by
  obtain ⟨ta, pa, ea⟩ := ha
  refine ⟨tLstRg (tRg1 ta), fun X hX => pe_listRg (F.hc hcm X hX) (F.gl X hX hg) (by rw [(F.hX X hX).2.2.2.1]; exact hm) (prg_1 (F.gl X hX hg1) (by rw [(F.hX X hX).2.2.2.1]; exact hm1) (pa X hX) (na X hX)) (na1 X hX), fun H0 σ S H Q hh po => ?_⟩
  refine ea H0 σ S H _ hh ((Po.bind po).imp fun d S1 H1 g1 k v r => ?_)
  cases d with
  | int n =>
    obtain ⟨hl, k⟩ := Po.gate (m := M.ok (D.lst (rangeD 0 n.toNat))) k
    cases r
    refine ⟨n, rfl, ⟨by decide, by decide, by omega, by omega, by omega⟩, ?_⟩
    exact ev_newL (G := F.G) g1.sub reps_rg k
  | _ => exact False.elim k
structure MethK (G : GG) (k c : Nat) (name : Str) (m : List D → M D) : Prop where
  ex : ∃ f fd ps j, j ≤ k ∧ FnOk G.P G.w G.K G.mg G.base (L2.CX G.P G.w) j f fd ps (spM G m) ∧ Meth G.K (G.ca c) name f ∧ Cls G.K (G.ca c) ∧ Binds G.K fd ps []
theorem MethK.mono {G : GG} {j k c : Nat} {x : Str} {m : List D → M D} (h : MethK G j c x m) (l : j ≤ k) : MethK G k c x m := by
  obtain ⟨f, fd, ps, i, hi, r⟩ := h.ex
  exact ⟨f, fd, ps, i, Nat.le_trans hi l, r⟩
end
end Mir
namespace Mir
open PySem PySem.Spec L2
open PyProof.Rows (envOfC)
section
variable {F : Fm} {Γ : Gam} {X S : Type} {fx : X → Gam} {fs : S → Gam} {x0 : X} {a b c e o : Expr} {es : List Expr} {ma mb mc m mo me : M D} {pos apos : Pos} {rest : List Stmt}
theorem bm_lit {sts : List Stmt} {o : Out} (Γ' : Gam) (e : Γ = Γ') (h : BM F sts Γ' o) : BM F sts Γ o := e ▸ h
end
end Mir
namespace Mir
open PySem PySem.Spec L2
open PyProof.Rows (envOfC)
section
variable {F : Fm} {Γ : Gam} {scope : Scope} {own : List (Str × Nat)} {V L : List Bool} {kd : List (Str × NameKind)} {elt tg iter : Expr} {ifs : List Expr} {pos : Pos} {mi : M (List D)} {f : D → M (List D)} {tf : D → Gam → Option Gam}
end
section
variable {F : Fm} {Γ : Gam} {a e : Expr} {es : List Expr} {ma m : M D} {pos : Pos}
end
def firmD : D → Bool
  | .non => true | .bl _ => true | .int _ => true | .str _ => true
  | .tup xs => firmDs xs
  | _ => false
where firmDs : List D → Bool
  | [] => true
  | d :: ds => firmD d && firmDs ds
def minus (S : Hp) (p : Addr) : Hp := fun a => if a = p then none else S a
theorem minus_ne {S : Hp} {p a : Addr} (h : a ≠ p) : minus S p a = S a := if_neg h
mutual
theorem rep_minus {G : GG} {S : Hp} {p : Addr} {us : List V} (hp : S p = some (.lst us)) : ∀ {d : D} {v : V}, firmD d = true → Rep G S v d → Rep G (minus S p) v d
  | .non, _, _, .non => .non
  | .bl b, _, _, .bl _ => .bl b
  | .int b, _, _, .int _ => .int b
  | .str b, _, _, .str _ => .str b
  | .adr a, _, _, .adr _ => .adr a
  | .ktp _, _, _, .kt k r => .kt k r
  | .tup xs, _, h, .tup e r => by
    refine .tup ?_ (reps_minus hp (by simpa [firmD] using h) r)
    rw [minus_ne]
    · exact e
    · intro z
      rw [z, hp] at e
      cases e
  | .lst _, _, h, _ => by simp [firmD] at h
  | .dct _, _, h, _ => by simp [firmD] at h
  | .dks _, _, h, _ => by simp [firmD] at h
  | .obj _ _, _, h, _ => by simp [firmD] at h
  | .slf _ _ _, _, h, _ => by simp [firmD] at h
  | .scr _, _, h, _ => by simp [firmD] at h
theorem reps_minus {G : GG} {S : Hp} {p : Addr} {us : List V} (hp : S p = some (.lst us)) : ∀ {ds : List D} {vs : List V}, firmD.firmDs ds = true → Reps G S vs ds → Reps G (minus S p) vs ds
  | [], _, _, .nil => .nil
  | d :: ds, _, h, .cons r rs => by
    have h : firmD d = true ∧ firmD.firmDs ds = true := by simpa [firmD.firmDs] using h
    exact .cons (rep_minus hp h.1 r) (reps_minus hp h.2 rs)
end
def spN (G : GG) (m : List D → M D) : Sp := fun vs H Q E => ∃ S ds, Ex S H ∧ Reps G S vs ds ∧ Po G E S H (fun d S' H' => ∀ v, Rep G S' v d → NewV H v → Q v H') (m ds)
def KnN (G : GG) (k : Nat) (x : Str) (m : List D → M D) : Prop := ∃ f fd ps j, j ≤ k ∧ FnOk G.P G.w G.K G.mg G.base (L2.CX G.P G.w) j f fd ps (spN G m) ∧ G.mg x = some (.ref f) ∧ PySem.W.keepIn G.K (.ref f) = true ∧ Binds G.K fd ps []
theorem KnN.mono {G : GG} {j k : Nat} {x : Str} {m : List D → M D} (h : KnN G j x m) (l : j ≤ k) : KnN G k x m := by
  obtain ⟨f, fd, ps, i, hi, r⟩ := h
  exact ⟨f, fd, ps, i, Nat.le_trans hi l, r⟩
section
variable {F : Fm} {Γ : Gam} {X S : Type} {fx : X → Gam} {fs : S → Gam} {x0 : X} {a e : Expr} {es : List Expr} {ma m : M D} {pos : Pos}
end
end Mir
namespace Mir
open PySem PySem.Spec L2
open PyProof.Rows (envOfC)
def cxE (P : Program) (w : World) (K : PySem.W.Frag) (mg : Str → Option Value) (base : Heap) (env : Env) (N : List Str) (A : Around) (outer : List Env) (s : Shared) (H : Hp) (E : XK) : Cx where
  prog := P
  w := w
  K := K
  mg := mg
  base := base
  A := A.deeper env
  N := N
  s_0 := s
  H_0 := H
  env := env
  outer := outer
  stack := env :: outer
  ex := []
  calm := true
  fn := fun x => x != ("__class__" : Str)
  pn := []
  xe := fun e s' => wpAny (model P w) (A.deeper env) (leaving env e) (fun _ s2 => L2.CX P w outer H s E e s2) (fun e' s2 => L2.CX P w outer H s E e' s2) s'
def spE (C : Addr) (fl : Str) : Sp := fun vs H Q E => ∃ a v, vs = [.ref a, v] ∧ H a = some (exo a C none) ∧ ∀ dx, H dx = none → dx ≠ a → Q .non (upd (upd H dx (exd dx [(fl, v)])) a (exo a C (some dx)))
structure ExI (P : Program) (K : PySem.W.Frag) (C cc cda : Addr) (scope : Scope) (qual par fl : Str) : Prop where
  oex : OexC K C
  fld : PySem.W.findIn K (.ref C) fl = some none
  cod : PySem.W.codeIn K (.ref cda) qual = true
  fil : ∃ ccl cdd ccs, ∃ vs : Array Value, ∃ file tf, K.lookup cda = some ⟨ccl, cdd, .fields vs, ccs⟩ ∧ vs[2]? = some (.str file tf) ∧ ((P.main.file : Str) == file) = true
  cel : ∃ cl cld csl, K.lookup cc = some ⟨cl, cld, .cell (some (.ref C)), csl⟩
  cls : ∃ cd, PySem.W.clsIn K C = some cd ∧ PySem.W.alongIn K "__init__" ((cd.mro.dropWhile (· != .ref C)).drop 1) = some (some (.builtin "ValueError.__init__"))
  sub : PySem.W.mroIn K C (.ref C) = some true
  suv : PySem.W.subIn K (.ref C) (.type "ValueError") = some true
  opq : PySem.W.nsIn K cStatics "thirdparty.any" = some none
  top : (P.main.scope.names.lookup ("super" : Str)).isSome = false
  knd : scope.kind = .function
  sup : scope.names.lookup ("super" : Str) = some .globalImplicit
  clf : scope.names.lookup ("__class__" : Str) = some .free
  slf : scope.names.lookup ("self" : Str) = some .local
  pal : scope.names.lookup par = some .local
  oth : ∀ x, scope.names.lookup x = some .cell ∨ scope.names.lookup x = some .free → x = ("__class__" : Str)
  npa : par ≠ ("self" : Str)
section
variable {P : Program} {w : World} {K : PySem.W.Frag} {mg : Str → Option Value} {base : Heap} {C cc cda f : Addr} {scope : Scope} {qual par fl : Str}
theorem exi_start {A : Around} {outer : List Env} {s : Shared} {H : Hp} {E : XK} {a : Addr} {u : Value} {v : V} {h₀ : Heap} {tk : Nat} (T : ExI P K C cc cda scope qual par fl) (hd : A.handled = none) (e0 : Env0 P w K mg base A outer s H) (rv : RelV v u)
    (hns : h₀.Ns s.heap.objs.size (fun x => [(("self" : Str), Value.ref a), (par, u)].reverse.lookup x)) (hk : ∀ b o, s.heap.get? b = some o → h₀.get? b = some o) :
    Inv (cxE P w K mg base (PySem.W.envX qual scope s.heap.objs.size f (.ref cda) [("__class__", cc)]) ["self", par] A outer s H E) [] [some (.ref a), some v] H { s with heap := h₀, toks := tk } := by
  obtain ⟨cl, cld, csl, hcell⟩ := T.cel
  have cel : ∀ x c, List.lookup x [(("__class__" : Str), cc)] = some c → x = ("__class__" : Str) ∧ c = cc := fun x c q => by
    rw [List.lookup_cons] at q
    by_cases z : x = ("__class__" : Str)
    · subst z
      simp at q
      exact ⟨rfl, q.symm⟩
    · have : (x == ("__class__" : Str)) = false := by simpa using z
      rw [this] at q
      simp at q
  have hcb := e0.mod.kin _ _ hcell
  have hself : ([(("self" : Str), Value.ref a), (par, u)].reverse.lookup ("self" : Str)) = some (.ref a) := by
    show List.lookup _ [(par, u), (("self" : Str), Value.ref a)] = _
    have : (("self" : Str) == par) = false := by simpa using fun z => T.npa z.symm
    rw [List.lookup_cons, this, List.lookup_cons]
    simp
  have hpar : ([(("self" : Str), Value.ref a), (par, u)].reverse.lookup par) = some u := by
    show List.lookup _ [(par, u), (("self" : Str), Value.ref a)] = _
    rw [List.lookup_cons]
    simp
  refine ⟨⟨e0.mod, T.knd, rfl, rfl, Nat.le_refl _, fun x y c h1 h2 => (cel x c h1).1.trans (cel y c h2).1.symm, fun x hx => ?_, fun x c hx h => ?_, fun _ => hd, Around.frames_deeper e0.frames, .inr ⟨rfl, rfl⟩, fun b z => absurd (show b ∈ ([] : List Addr) from z) (by simp), e0.bs, e0.bsz, fun b _ _ z => absurd (show b ∈ ([] : List Addr) from z) (by simp), fun b z => absurd (show b ∈ ([] : List Addr) from z) (by simp), e0.funs, e0.frf⟩,
    rfl, e0.bare, Un.kept hk, ⟨_, hns, fun i x v' h1 h2 h3 => ?_⟩, fun x c h => ?_, e0.hok.fresh (Nat.le_refl _), fun x c h => ?_, fun p hp => absurd (show p ∈ ([] : List (Addr × Obj)) from hp) (by simp), e0.hok.kept hk, rfl⟩
  · have := T.oth x hx
    subst this
    exact ⟨cc, by show List.lookup _ [(("__class__" : Str), cc)] = _; simp⟩
  · have := (cel x c h).1
    subst this
    exact absurd hx (by show ¬(("__class__" : Str) != ("__class__" : Str)) = true; simp)
  · match i, h1, h2 with
    | 0, h1, h2 =>
      cases h1
      cases h2
      exact ⟨_, rfl, .inl ⟨T.slf, hself⟩⟩
    | 1, h1, h2 =>
      cases h1
      cases h2
      exact ⟨_, rv, .inl ⟨T.pal, hpar⟩⟩
    | (n + 2), h1, h2 => cases h1
  · obtain ⟨_, rfl⟩ := cel x c h
    exact ⟨_, _, hk _ _ (e0.bs _ _ hcb).1, rfl⟩
  · obtain ⟨_, rfl⟩ := cel x c h
    exact (e0.bs _ _ hcb).2
theorem bound_init {A : Around} {E : Value → Shared → Prop} {h : Heap} {g : Array GenState} {d : Drawn} {t : Nat} {os : OsState} {u e t0 : Addr} {rest : List Value} {Q : Value → Shared → Prop} (T : OexC K C) (X : K.In h) (he : h.get? e = some (PySem.HandSPX.excO C t0)) (hu : h.get? u = some (PySem.W.kxs_mw "ValueError.__init__" e)) (hr : rest.length ≤ sizeLine)
    (hq : ∀ h' t1, (∀ b o, b ≠ e → h.get? b = some o → h'.get? b = some o) → h'.get? e = some (PySem.HandSPX.excO C t1) → Q .none ⟨h', g, d, t, os⟩) : wpAny (model P w) A (call (.ref u) rest) Q E ⟨h, g, d, t, os⟩ := by
  obtain ⟨nm, q, N, bs, bm, sn, sub, ab, col, dd, k0, k1, k2, k3, k5, hC, hbm⟩ := T.cls
  refine wpAny_call (codeAny_of_tree (show wpAny (model P w) A.in1 (callAny (.ref u) ⟨rest, []⟩) _ _ _ from ?_))
  unfold callAny
  refine wpAny_bind (wpAny_load hu ?_)
  simp only [PySem.W.kxs_mw]
  refine PySem.W.KFB.if_so (by decide) (wpAny_bind (PySem.W.check_bound_init F.excBase_ValueError.toExcCallFacts (X _ _ hC) he rfl (wpAny_bind (wpAny_pure (wpAny_pure ⟨plainId_quiet F.excBase_ValueError.init.plain _, codeAny_builtin F.excBase_ValueError.initEntry ?_⟩)))))
  exact PySem.W.exc_init_tree (cls := .ref C) (t0 := t0) (dv := none) (c2 := .none) (c3 := .none) (b4 := .bool false) he hr fun h' k e' t' => hq h' _ k e'
theorem exi_ok {args : Arguments} {body : List Stmt} {dV kV doc pm ct oc : Value} {an od : Option Addr} {osl : Array (Option Value)} {k : Nat} {p0 p1 p2 p3 p4 p5 p6 p7 p8 p9 : Pos} {msg : Str} {j : Nat} {ar : Arg} {pl : Env → Sem Bool}
    (T : ExI P K C cc cda scope qual par fl) (lk : K.lookup f = some ⟨oc, od, .func (PySem.W.ksFn "__init__" qual args body scope dV kV doc pm an (.ref cda) ct cc), osl⟩) (hsup : mg "super" = none)
    (hbody : body = [.Expr (.Call (.Attribute (.Call (.Name "super" p0) [] [] p1) "__init__" p2) [.Constant (.str msg) j p3] [] p4) p5, .Assign [.Attribute (.Name "self" p6) fl p7] (.Name par p8) p9])
    (hargs : (args.posonlyargs ++ args.args).head? = some ar) (har : ar.arg = ("self" : Str)) (hnc : ∀ x ∈ scope.names, x.2 ≠ .cell) (hco : scope.isCoroutine = false) (hgen : scope.isGenerator = false)
    (hec : ∀ env : Env, eval (.Call (.Attribute (.Call (.Name "super" p0) [] [] p1) "__init__" p2) [.Constant (.str msg) j p3] [] p4) env = (do
      let ov ← attributeBase (.Call (.Name "super" p0) [] [] p1) "__init__" env (eval (.Call (.Name "super" p0) [] [] p1) env)
      standAt p2.atName
      let (f, first) ← holding [ov] (getMethod ov "__init__" (pl env))
      callWith p4 f first (backTo p4 (starEach [.Constant (.str msg) j p3] env)) []))
    (hs1 : ∀ env : Env, swapsWith (.Call (.Attribute (.Call (.Name "super" p0) [] [] p1) "__init__" p2) [.Constant (.str msg) j p3] [] p4) none p5.line env = pure false)
    (hs2 : ∀ env : Env, swapsWith (.Name par p8) (some (.Attribute (.Name "self" p6) fl p7)) p9.line env = pure false)
    (hst : ∀ env : Env, starEach [.Constant (.str msg) j p3] env = (false, eval (.Constant (.str msg) j p3) env) :: starEach [] env) (hin : ∀ L : Addr, interactive (PySem.W.envX qual scope L f (.ref cda) [("__class__", cc)]) = false)
    (hdp : (par == ("__debug__" : Str)) = false) (hcp : (par == ("__classdict__" : Str)) = false) :
    FnOk P w K mg base (L2.CX P w) (k + 1) f (PySem.W.ksFn "__init__" qual args body scope dV kV doc pm an (.ref cda) ct cc) ["self", par] (spE C fl) := by
  subst hbody
  refine ⟨fun vs H Q E h => by obtain ⟨a, v, rfl, _⟩ := h; rfl, fun A outer s H ag us vs Q E hr e0 hb r hsp => ?_⟩
  obtain ⟨a, v, rfl, ha, hq⟩ := hsp
  cases r with
  | @cons _ u0 _ us' ra r' =>
  cases r' with
  | @cons _ u _ us2 rv r2 =>
  cases r2
  obtain rfl : u0 = Value.ref a := ra
  have KX : K.In s.heap := e0.mod.kin.keeps fun b o e => (e0.bs b o e).1
  have lim : s.heap.NoLimit := e0.mod.nolimit.keeps fun b o e => (e0.bs b o e).1
  have hloc : ∀ x ∈ (["self", par] : List Str).zip [Value.ref a, u], scope.names.lookup x.1 = some .local := fun x hx => by
    rcases List.mem_cons.mp hx with rfl | hx
    · exact T.slf
    · rcases List.mem_cons.mp hx with rfl | hx
      · exact T.pal
      · cases hx
  refine ks_codeAny_call_defAt hr.depth (KX _ _ lk) rfl lim (PySem.W.codeRec_of KX T.cod) rfl hb hnc hloc (fun h₀ hns hkeep => ?_) hco hgen T.knd
  have I0 := exi_start (f := f) (E := E) (tk := s.toks + 2) T hr.hd e0 rv hns hkeep
  obtain ⟨clc, cldc, cslc, hcl⟩ := T.cel
  obtain ⟨ccl, cdd, ccs, vsf, file, tf, hcda, hv2, hfile⟩ := T.fil
  obtain ⟨cd, hcd, halong⟩ := T.cls
  have K0 : K.In h₀ := I0.kIn
  refine ks_wpAt_execs_cons (ks_wpAt_Expr_any (ks_wpAt_MethodCall (pl := pl _) ?_ (hec _)) (hin _) (hs1 _))
  refine ks_wpAt_super_base T.sup T.clf (by decide) rfl (K0 _ _ lk) rfl hargs rfl (K0 _ _ hcda) rfl hv2 hfile T.top ?_
  obtain ⟨mb, hmb1, hmb2⟩ := I0.mod.blt
  refine PySem.W.ks_loadName_global T.knd T.sup (Calls.loadGlobal_builtin (I0.mod.glob.keeps I0.bk) hsup (hmb1.keeps I0.bk) ((hmb2 ("super" : Str) (by decide)).trans (by rfl)) ⟨rfl, ?_⟩)
  refine wpAny_loadName_free T.knd T.clf rfl ⟨_, K0 _ _ hcl, rfl⟩ ?_
  refine wpAny_loadName_local T.knd (by show scope.names.lookup ar.arg = _; rw [har]; exact T.slf) hns (v := .ref a) (by
    rw [har]
    show List.lookup _ [(par, u), (("self" : Str), Value.ref a)] = _
    have : (("self" : Str) == par) = false := by simpa using fun z => T.npa z.symm
    rw [List.lookup_cons, this, List.lookup_cons]
    simp) ?_
  obtain ⟨oD, hoD, hdD⟩ : ∃ oD, h₀.get? C = some oD ∧ oD.data = .cls cd := by
    have z := hcd
    unfold PySem.W.clsIn at z
    split at z
    · rename_i ho
      cases z
      exact ⟨_, K0 _ _ ho, rfl⟩
    · cases z
  obtain ⟨t1, hoa⟩ := exo_at I0.hok ha
  refine ks_wpAny_isType_cls hoD hdD ⟨rfl, ?_⟩
  refine ks_wpAny_call_super hoD hdD hoa rfl (fun c e => by cases e) (PySem.W.looks_mroIn K0 T.sub) fun h1 hso k1 => ?_
  have I1 := I0.kept (t' := s.toks + 2) k1
  have K1 : K.In h1 := I1.kIn
  have J : PySem.W.InstAt h1 a _ C none := ⟨k1 _ _ hoa, rfl, rfl, trivial⟩
  refine PySem.W.kxs_getMethod PySem.W.kxs_ValueError hso (PySem.W.looks_opaque K1 T.opq) (l₀ := cd.mro) (fun A' Q' E' s' k' q' => wpAny_bind ((PySem.W.looks_clsIn K1 hcd) A' _ E' s' k' (wpAny_pure q'))) rfl K1 halong
    (J.type.andThen (PySem.W.looks_subIn K1 T.suv)) (PySem.W.ks_ne K1 J hcd) (by decide) ?_
  have I2 := ClX.pin_new (t' := s.toks + 3) I1 (o := PySem.W.kxs_mw "ValueError.__init__" a) (h' := h1.push (PySem.W.kxs_mw "ValueError.__init__" a)) (fun b o e => Heap.get?_push_of_some _ e) (Nat.le_refl _) (Heap.get?_push_at rfl rfl) (fun v e => by cases e)
  have hA := (pa_cons (pe_str (x := msg) (j := j) (pos := p3)) pa_nil (hst _)).run p4 _ _ _ _ (fun vs H' => H' = H ∧ vs.length = 1) I2 ⟨rfl, rfl⟩
  rw [show (cxE P w K mg base (PySem.W.envX qual scope s.heap.objs.size f (.ref cda) [("__class__", cc)]) ["self", par] A outer s H E).env = PySem.W.envX qual scope s.heap.objs.size f (.ref cda) [("__class__", cc)] from rfl, hst] at hA
  show wpAny _ _ (callWith p4 _ [] (backTo p4 (starEach [.Constant (.str msg) j p3] (PySem.W.envX qual scope s.heap.objs.size f (.ref cda) [("__class__", cc)]))) []) _ _ _
  rw [hst]
  refine PySem.W.kxs_callWith (i := "ValueError.__init__") (x := a) (by rfl) (Calls.evalArgs_plain (thn hA fun us3 s3 hs3 => ?_))
  obtain ⟨vs3, H3, I3, r3, rfl, hl3⟩ := hs3
  obtain ⟨t3, ho3⟩ := exo_at I3.hok ha
  have hu3 := ClX.pin_at I3
  refine ⟨hu3, ?_⟩
  obtain ⟨h3, g3, d3, tk3, os3⟩ := s3
  refine bound_init T.oex I3.kIn ho3 hu3 (by show us3.length ≤ _; rw [← Paired.length r3, hl3, sizeLine_eq]; omega) fun h4 t4 k4 hx4 => ?_
  have I4 := (ClX.unpin I3).write (t' := tk3) (x := a) (e := a) (o := exo a C none) (by rw [ha]; exact True.intro) (.inl rfl) k4 ⟨_, hx4⟩ (exo_ok hx4)
  have eu : upd H3 a (exo a C none) = H3 := by
    funext b
    by_cases hb : b = a
    · rw [hb, upd_same, ha]
    · rw [upd_ne hb]
  rw [eu] at I4
  refine wpAt_of_wpAny (thn ((pss_one (ps_ost (pe_var (i := 0) rfl (.inl T.slf) (by decide) (by decide)) (pe_var (i := 1) rfl (.inl T.pal) hdp hcp) (hs2 _))).run [] _ _ _ { nx := fun _ H' => Q .non H', rt := Q } I4
    ⟨v, rfl, .ref a, rfl, a, C, rfl, T.oex, T.fld, .inl ⟨ha, fun dx n ne => hq dx n ne⟩⟩) fun fl5 s5 hs5 => ?_)
  cases fl5 with
  | ret u5 =>
    obtain ⟨v5, σ5, H5, J5, rv5, q5⟩ := hs5
    exact ⟨v5, H5, J5.os, J5.bare, J5.base, J5.hok, rv5, q5⟩
  | next =>
    obtain ⟨σ5, H5, J5, q5⟩ := hs5
    exact ⟨.non, H5, J5.os, J5.bare, J5.base, J5.hok, rfl, q5⟩
  | brk =>
    obtain ⟨_, _, _, q5⟩ := hs5
    exact q5.elim
  | cont =>
    obtain ⟨_, _, _, q5⟩ := hs5
    exact q5.elim
end
end Mir
namespace Mir
open PySem PySem.Spec L2
open PyProof.Rows (envOfC)
section
variable {F : Fm} {Γ : Gam} {X S : Type} {fx : X → Gam} {fs : S → Gam} {x0 : X} {a b c e o : Expr} {es : List Expr} {ma mb mc m mo me : M D} {ml : M (List D)} {pos apos : Pos} {rest : List Stmt}
structure ExF (G : GG) (k : Nat) (x : Str) (c : Nat) (fl : Str) : Prop where
  ex : ∃ (C fI : Addr) (fd : FuncData) (par : Str) (j : Nat), j + 1 ≤ k ∧ G.xc c = .ref C ∧ G.mg x = some (.ref C) ∧ OexC G.K C ∧ PySem.W.findIn G.K (.ref C) "__init__" = some (some (.ref fI)) ∧ PySem.W.typeIn G.K (.ref fI) = some (.type "function") ∧
    FnOk G.P G.w G.K G.mg G.base (L2.CX G.P G.w) j fI fd ["self", par] (spE C fl) ∧ Binds G.K fd ["self", par] []
theorem ExF.mono {G : GG} {j k c : Nat} {x fl : Str} (h : ExF G j x c fl) (l : j ≤ k) : ExF G k x c fl := by
  obtain ⟨C, fI, fd, par, i, hi, r⟩ := h.ex
  exact ⟨C, fI, fd, par, i, Nat.le_trans hi l, r⟩
def exnF {X S : Type} (c : Nat) (fl : Str) (x0 : X) : List D → Ctl X S
  | [d] => .exn ⟨c, [(fl, d)]⟩ x0
  | _ => .stk
theorem xd_upd {H : Hp} {a C dx : Addr} {f : Str} {v : V} (ha : H a = none) (hd : H dx = none) (ne : dx ≠ a) :
    upd (del (upd (upd (upd H a (exo a C none)) dx (exd dx [(f, v)])) a (exo a C (some dx))) a) dx (.xd [(f, v)]) = upd H dx (.xd [(f, v)]) := by
  funext b
  by_cases h1 : b = dx
  · subst h1
    rw [upd_same, upd_same]
  · rw [upd_ne h1, upd_ne h1]
    by_cases h2 : b = a
    · subst h2
      rw [del_same, ha]
    · rw [del_ne h2, upd_ne h2, upd_ne h1, upd_ne h2]
theorem bm_raiseF {x fl : Str} {c : Nat} {p p3 : Pos} (K : ExF F.G F.k x c fl) (hcm : F.cm = true) (hg : F.kd.lookup x = some .globalImplicit) (ha : AM F [e] Γ ml) (w : Weak Γ (fx x0)) (hdb : (x == ("__debug__" : Str)) = false := by decide)
    (he : ∀ X, F.Xs X → starEach [e] X.env = (false, eval e X.env) :: starEach [] X.env := by intros; rfl) :
    BM F [.Raise (some (.Call (.Name x p) [e] [] p3)) none pos] Γ ((ml.bindC x0 (exnF c fl x0) : Ctl X S).out fx fs) := by
  obtain ⟨C, fI, fd, par, j, hj, hc, gC, T, iC, tI, ok, hb⟩ := K.ex
  obtain ⟨t, q, g⟩ := ha
  refine ⟨fun _ σ H => tMkO C (spE C fl) [] t σ H fun cls d H' => F.W cls d σ H', fun Y hY => pss_one ?_, fun S0 H0 Dn σ S H gr hh po => ?_⟩
  · obtain ⟨h1, h2, h3, h4, h5, _⟩ := F.hX Y hY
    rw [← h3] at T iC tI
    rw [← h4] at gC
    rw [← h1, ← h2, ← h3, ← h4, ← h5] at ok
    rw [← h3] at hb
    exact ps_raise (F.hc hcm Y hY) (F.tk Y hY) (pmk_oex T iC tI ok ((F.hr hcm Y hY).mono hj) hb .nil (fun pins σ H s u s' _ z => by obtain ⟨_, _, _, _, _, _, _, _, _, _, _, _, z⟩ := z; exact z.elim) (F.gl Y hY hg) gC (q Y hY) hdb (he Y hY) (by rfl))
  · refine g H0 σ S H _ hh ((opo_bind gr hh w po).imp fun ds S1 H1 _ ⟨g1, h1, p1⟩ vs r => ?_)
    cases r with
    | nil => exact False.elim p1
    | @cons v _ d _ rv r =>
      cases r with
      | cons _ _ => exact False.elim p1
      | nil =>
        refine ⟨by show 1 ≤ 1000; omega, fun a0 ha0 => ⟨a0, v, rfl, upd_same, fun dx hdx ne => ?_⟩⟩
        have hd1 : H1 dx = none := by rw [upd_ne ne] at hdx; exact hdx
        refine ⟨rfl, dx, [(fl, v)], upd_same, ?_, hd1, ?_⟩
        · rw [upd_ne ne, upd_same]
        · rw [xd_upd ha0 hd1 ne]
          have gn := Grow.new (o := .xd [(fl, v)]) h1.ex hd1
          exact p1 (.ref C) (some dx) σ _ _ (g1.trans gn) ⟨Γ, h1.grow gn, w⟩ ⟨hc.symm, .inr ⟨(fun z => by cases z), dx, _, rfl, upd_same, rfl, .cons (rv.mono gn.s) .nil⟩⟩
structure XfK (G : GG) (f : Str) : Prop where
  ex : ∀ c, c < 6 → ∃ C, G.xc c = .ref C ∧ XfC G.K C ∧ PySem.W.findIn G.K (.ref C) f = some none
end
structure ShrF (K : PySem.W.Frag) (C : Addr) : Prop where
  sf : PySem.W.selfFirst K C = true
  rr : PySem.W.findIn K (.ref C) "__rrshift__" = some none
  t1 : PySem.W.findIn K (.type "tuple") "__rshift__" = some none
  t2 : PySem.W.findIn K (.type "tuple") "__rrshift__" = some none
  sb : PySem.W.subIn K (.type "tuple") (.ref C) = some false
section
open PySem.W
end
section
variable {F : Fm} {Γ : Gam} {a b : Expr} {ma mb : M D} {pos : Pos}
structure ShrK (G : GG) (c : Nat) : Prop where
  f : ShrF G.K (G.ca c)
end
end Mir
namespace Mir
open PySem PySem.Spec L2
open PyProof.Rows (envOfC)
inductive CDisp : List (Option Expr) → List Expr → List (Str × Str) → Prop
  | nil : CDisp [] [] []
  | cons {k v : Str} {j j' : Nat} {p p' : Pos} {ks : List (Option Expr)} {vs : List Expr} {l : List (Str × Str)} (h : CDisp ks vs l) : CDisp (some (.Constant (.str k) j p) :: ks) (.Constant (.str v) j' p' :: vs) ((k, v) :: l)
theorem CDisp.all {ks : List (Option Expr)} {vs : List Expr} {l : List (Str × Str)} (h : CDisp ks vs l) : ks.all (·.isSome) = true ∧ ks.length = vs.length ∧ ks.length = l.length := by
  induction h with
  | nil => exact ⟨rfl, rfl, rfl⟩
  | cons _ ih => exact ⟨by simpa using ih.1, by simpa using ih.2.1, by simpa using ih.2.2⟩
section
variable {F : Fm} {Γ : Gam} {a b : Expr} {ma mb : M D} {pos : Pos}
end
end Mir
namespace Mir
open PySem PySem.Spec L2
open PyProof.Rows (envOfC)
def filB (K : PySem.W.Frag) (cda : Addr) (file : Str) : Bool := match K.lookup cda with
  | some o => (match o.data with
    | .fields vs => (match (vs[2]? : Option Value) with
      | some (Value.str x _) => file == x
      | _ => false)
    | _ => false)
  | none => false
def celB (K : PySem.W.Frag) (cc C : Addr) : Bool := match K.lookup cc with
  | some o => (match o.data with
    | .cell (some (.ref y)) => decide (y = C)
    | _ => false)
  | none => false
def supB (K : PySem.W.Frag) (C : Addr) : Bool := match PySem.W.clsIn K C with
  | some cd => decide (PySem.W.alongIn K "__init__" ((cd.mro.dropWhile (· != .ref C)).drop 1) = some (some (.builtin "ValueError.__init__")))
  | none => false
def exiB (K : PySem.W.Frag) (file : Str) (C cc cda fI : Addr) (qual fl : Str) : Bool :=
  filB K cda file && celB K cc C && supB K C && PySem.W.codeIn K (.ref cda) qual && PySem.W.keepIn K (.ref C) &&
  decide (PySem.W.findIn K (.ref C) fl = some none) && decide (PySem.W.mroIn K C (.ref C) = some true) && decide (PySem.W.subIn K (.ref C) (.type "ValueError") = some true) &&
  decide (PySem.W.nsIn K cStatics "thirdparty.any" = some none) && decide (PySem.W.findIn K (.ref C) "__setattr__" = some (some (.builtin "object.__setattr__"))) &&
  decide (PySem.W.subIn K (.ref C) (.type "BaseException") = some true) && decide (PySem.W.typeIn K (.ref C) = some (.type "type")) &&
  decide (PySem.W.findIn K (.ref C) "__init__" = some (some (.ref fI))) && decide (PySem.W.typeIn K (.ref fI) = some (.type "function"))
def escB (sc : Scope) (par : Str) : Bool := decide (sc.names.lookup ("super" : Str) = some .globalImplicit) && decide (sc.names.lookup ("__class__" : Str) = some .free) && decide (sc.names.lookup ("self" : Str) = some .local) && decide (sc.names.lookup par = some .local) &&
  (sc.names.all fun x => decide (x.2 ≠ .cell) && (decide (x.2 ≠ .free) || decide (x.1 = ("__class__" : Str)))) && decide (par ≠ ("self" : Str)) && !sc.isCoroutine && !sc.isGenerator && decide (sc.kind = .function)
theorem look_mem {l : List (Str × NameKind)} {x : Str} {k : NameKind} (h : l.lookup x = some k) : (x, k) ∈ l := by
  induction l with
  | nil => cases h
  | cons p l ih =>
    obtain ⟨y, q⟩ := p
    rw [List.lookup_cons] at h
    by_cases z : x = y
    · subst z
      simp at h
      subst h
      exact List.mem_cons_self
    · rw [show (x == y) = false by simpa using z] at h
      exact List.mem_cons_of_mem _ (ih h)
theorem exF_mk {G : GG} {x : Str} {c : Nat} {C cc cda fI N : Addr} {qual par fl msg nm q : Str} {args : Arguments} {body : List Stmt} {sc : Scope} {dV kV doc pm ct oc : Value} {an od : Option Addr} {osl : Array (Option Value)} {p0 p1 p2 p3 p4 p5 p6 p7 p8 p9 : Pos} {j : Nat} {ar : Arg} {pl : Env → Sem Bool}
    {bs bm sub : List Value} {sn : List Str} {ab : Bool} {col : Option Bool} {dd : Option Addr} {k0 k1 k2 k3 k5 : Option Value}
    (hC : G.xc c = .ref C) (hm : G.mg x = some (.ref C)) (ol : G.K.lookup C = some (excClassObj nm q C N bs bm true sn sub ab col dd k0 k1 k2 k3 k5 "ValueError.__new__")) (rv : PySem.HandSPX.refsVE bm = true) (eb : exiB G.K G.P.main.file C cc cda fI qual fl = true)
    (lk : G.K.lookup fI = some ⟨oc, od, .func (PySem.W.ksFn "__init__" qual args body sc dV kV doc pm an (.ref cda) ct cc), osl⟩) (hsup : G.mg "super" = none) (top : (G.P.main.scope.names.lookup ("super" : Str)).isSome = false) (hsc : escB sc par = true)
    (hbody : body = [.Expr (.Call (.Attribute (.Call (.Name "super" p0) [] [] p1) "__init__" p2) [.Constant (.str msg) j p3] [] p4) p5, .Assign [.Attribute (.Name "self" p6) fl p7] (.Name par p8) p9])
    (hargs : (args.posonlyargs ++ args.args).head? = some ar) (har : ar.arg = ("self" : Str))
    (hec : ∀ env : Env, eval (.Call (.Attribute (.Call (.Name "super" p0) [] [] p1) "__init__" p2) [.Constant (.str msg) j p3] [] p4) env = (do
      let ov ← attributeBase (.Call (.Name "super" p0) [] [] p1) "__init__" env (eval (.Call (.Name "super" p0) [] [] p1) env)
      standAt p2.atName
      let (f, first) ← holding [ov] (getMethod ov "__init__" (pl env))
      callWith p4 f first (backTo p4 (starEach [.Constant (.str msg) j p3] env)) []))
    (hs1 : ∀ env : Env, swapsWith (.Call (.Attribute (.Call (.Name "super" p0) [] [] p1) "__init__" p2) [.Constant (.str msg) j p3] [] p4) none p5.line env = pure false)
    (hs2 : ∀ env : Env, swapsWith (.Name par p8) (some (.Attribute (.Name "self" p6) fl p7)) p9.line env = pure false)
    (hst : ∀ env : Env, starEach [.Constant (.str msg) j p3] env = (false, eval (.Constant (.str msg) j p3) env) :: starEach [] env) (hin : ∀ L : Addr, interactive (PySem.W.envX qual sc L fI (.ref cda) [("__class__", cc)]) = false)
    (hdp : (par == ("__debug__" : Str)) = false) (hcp : (par == ("__classdict__" : Str)) = false) (hb : Binds G.K (PySem.W.ksFn "__init__" qual args body sc dV kV doc pm an (.ref cda) ct cc) ["self", par] []) : ExF G 2 x c fl := by
  simp only [exiB, Bool.and_eq_true, decide_eq_true_eq] at eb
  obtain ⟨⟨⟨⟨⟨⟨⟨⟨⟨⟨⟨⟨⟨e1, e2⟩, e3⟩, e4⟩, e5⟩, e6⟩, e7⟩, e8⟩, e9⟩, e10⟩, e11⟩, e12⟩, e13⟩, e14⟩ := eb
  simp only [escB, Bool.and_eq_true, decide_eq_true_eq, Bool.not_eq_true', List.all_eq_true, Bool.or_eq_true] at hsc
  obtain ⟨⟨⟨⟨⟨⟨⟨⟨s1, s2⟩, s3⟩, s4⟩, s5⟩, s6⟩, s7⟩, s8⟩, s9⟩ := hsc
  have T : ExI G.P G.K C cc cda sc qual par fl := {
    oex := { cls := ⟨nm, q, N, bs, bm, sn, sub, ab, col, dd, k0, k1, k2, k3, k5, ol, rv⟩, sa := e10, exC := e11, tyC := e12, kC := e5 }
    fld := e6
    cod := e4
    fil := by
      unfold filB at e1
      split at e1
      · rename_i o ho
        obtain ⟨o1, o2, o3, o4⟩ := o
        dsimp only at e1
        split at e1
        · rename_i vs
          split at e1
          · rename_i y t hy
            exact ⟨_, _, _, _, _, _, ho, hy, e1⟩
          · cases e1
        · cases e1
      · cases e1
    cel := by
      unfold celB at e2
      split at e2
      · rename_i o ho
        obtain ⟨o1, o2, o3, o4⟩ := o
        dsimp only at e2
        split at e2
        · rename_i y
          obtain rfl := of_decide_eq_true e2
          exact ⟨_, _, _, ho⟩
        · cases e2
      · cases e2
    cls := by
      unfold supB at e3
      split at e3
      · rename_i cd hcd
        exact ⟨cd, hcd, of_decide_eq_true e3⟩
      · cases e3
    sub := e7
    suv := e8
    opq := e9
    top := top
    knd := s9
    sup := s1
    clf := s2
    slf := s3
    pal := s4
    oth := fun y hy => by
      rcases hy with h | h
      · exact absurd rfl (s5 _ (look_mem h)).1
      · exact (s5 _ (look_mem h)).2.elim (fun z => absurd rfl z) id
    npa := s6 }
  exact ⟨C, fI, _, par, 1, by decide, hC, hm, T.oex, e13, e14, exi_ok (k := 0) T lk hsup hbody hargs har (fun y hy => (s5 y hy).1) s7 s8 hec hs1 hs2 hst hin hdp hcp, hb⟩
end Mir
set_option maxHeartbeats 2000000
namespace Mir
open PySem PySem.Spec L2
open PyProof.Rows (envOfC)
abbrev SuT := Addr → Value → Option Addr → TS
inductive Clauses (Y : Cx) (n : Str) : List ExceptHandler → List (Value × SuT) → Prop
  | nil : Clauses Y n [] []
  | cons {y : Str} {cv : Value} {su : SuT} {st : Stmt} {sts : List Stmt} {py pq : Pos} {hl : List ExceptHandler} {cl : List (Value × SuT)} (nm : Names Y y cv)
      (ok : ∀ p ob cls d pn, Zc cls d ob → (∃ v, ob.data = .fields v) → PSs (Y.suite p ((p, ob) :: pn)) (st :: sts) (su p cls d)) (more : Clauses Y n hl cl) : Clauses Y n (.ExceptHandler (some (.Name y py)) (some n) (st :: sts) pq :: hl) ((cv, su) :: cl)
section
variable {Y : Cx} {n : Str} {i : Nat} {body : List Stmt} {h1 : ExceptHandler} {hl : List ExceptHandler} {cl : List (Value × SuT)} {pos : Pos} {tb : WX → TS} {out : WX}
end
section
variable {F : Fm} {Γ : Gam} {X Y S J : Type} {fx : X → Gam} {fy : Y → Gam} {fs : S → Gam} {fj : J → Gam} {x0 : X} {pos : Pos} {rest body suite1 suite2 : List Stmt} {b1' b2' : Stmt}
end
end Mir
namespace Mir
open PySem PySem.Spec L2
section
variable {α β γ X S T : Type}
@[simp] theorem bindC_ok {a : α} {x : X} {k : α → Ctl X S} : M.bindC (.ok a) x k = k a := id rfl
@[simp] theorem bindC_exn {e : Exc} {x : X} {k : α → Ctl X S} : M.bindC (.exn e) x k = .exn e x := id rfl
@[simp] theorem b1_ok {f : α → M β} {a : α} : b1 f (.ok a) = f a := id rfl
@[simp] theorem b2_ok {f : α → β → M γ} {a : α} {b : β} : b2 f (.ok a) (.ok b) = f a b := id rfl
@[simp] theorem bind_ok {a : α} {k : α → M β} : M.bind (.ok a) k = k a := id rfl
@[simp] theorem mlist_nil : mlist ([] : List (M α)) = .ok [] := id rfl
@[simp] theorem mlist_cons {a : α} {l : List (M α)} : mlist (.ok a :: l) = (mlist l).bind fun r => .ok (a :: r) := id rfl
@[simp] theorem ctl_nx {s : S} {k : S → Ctl X T} : Ctl.bind (.nx s) k = k s := id rfl
@[simp] theorem ctl_ret {d : D} {k : S → Ctl X T} : Ctl.bind (.ret d) k = .ret d := id rfl
@[simp] theorem ctl_exn {e : Exc} {x : X} {k : S → Ctl X T} : Ctl.bind (.exn e x) k = .exn e x := id rfl
@[simp] theorem andM_ok {c : Bool} {b : M Bool} : andM (.ok c) b = if c = true then b else .ok false := id rfl
@[simp] theorem orM_ok {c : Bool} {b : M Bool} : orM (.ok c) b = if c = true then .ok true else b := id rfl
@[simp] theorem notM_ok {c : Bool} : notM (.ok c) = .ok (!c) := id rfl
@[simp] theorem ifM_ok {c : Bool} {a b : M α} : ifM (.ok c) a b = if c = true then a else b := id rfl
@[simp] theorem isB_bl {b : Bool} : isB (.bl b) = .ok b := id rfl
@[simp] theorem toM_ret {d : D} : Ctl.toM (.ret d : Ctl X S) = .ok d := id rfl
@[simp] theorem toM_nx {s : S} : Ctl.toM (.nx s : Ctl X S) = .ok .non := id rfl
@[simp] theorem toM_exn {e : Exc} {x : X} : Ctl.toM (.exn e x : Ctl X S) = .exn e := id rfl
@[simp] theorem ofOpt_some {a : α} : ofOpt (some a) = .ok a := id rfl
end
section
variable {a b : Int}
@[simp] theorem add_ii : pyAdd (.int a) (.int b) = .ok (.int (a + b)) := id rfl
@[simp] theorem sub_ii : pySub (.int a) (.int b) = .ok (.int (a - b)) := id rfl
@[simp] theorem neg_i : pyNeg (.int a) = .ok (.int (-a)) := id rfl
@[simp] theorem lt_ii : pyLt (.int a) (.int b) = .ok (.bl (decide (a < b))) := id rfl
@[simp] theorem le_ii : pyLe (.int a) (.int b) = .ok (.bl (decide (a ≤ b))) := id rfl
@[simp] theorem gt_ii : pyGt (.int a) (.int b) = .ok (.bl (decide (b < a))) := id rfl
@[simp] theorem ge_ii : pyGe (.int a) (.int b) = .ok (.bl (decide (b ≤ a))) := id rfl
@[simp] theorem eq_ii : pyEq (.int a) (.int b) = .ok (.bl (decide (a = b))) := id rfl
@[simp] theorem ne_ii : pyNe (.int a) (.int b) = .ok (.bl (!decide (a = b))) := id rfl
@[simp] theorem int_i : pyInt [.int a] = .ok (.int a) := id rfl
@[simp] theorem int_b {c : Bool} : pyInt [.bl c] = .ok (.int (if c then 1 else 0)) := id rfl
theorem gt_t (h : b < a) : pyGt (.int a) (.int b) = .ok (.bl true) := by rw [gt_ii, decide_eq_true h]
theorem gt_f (h : ¬ b < a) : pyGt (.int a) (.int b) = .ok (.bl false) := by rw [gt_ii, decide_eq_false h]
theorem lt_t (h : a < b) : pyLt (.int a) (.int b) = .ok (.bl true) := by rw [lt_ii, decide_eq_true h]
theorem lt_f (h : ¬ a < b) : pyLt (.int a) (.int b) = .ok (.bl false) := by rw [lt_ii, decide_eq_false h]
theorem ge_t (h : b ≤ a) : pyGe (.int a) (.int b) = .ok (.bl true) := by rw [ge_ii, decide_eq_true h]
theorem ge_f (h : ¬ b ≤ a) : pyGe (.int a) (.int b) = .ok (.bl false) := by rw [ge_ii, decide_eq_false h]
theorem eq_t (h : a = b) : pyEq (.int a) (.int b) = .ok (.bl true) := by rw [eq_ii, decide_eq_true h]
theorem ne_t (h : ¬ a = b) : pyNe (.int a) (.int b) = .ok (.bl true) := by rw [ne_ii, decide_eq_false h]; rfl
theorem ne_f (h : a = b) : pyNe (.int a) (.int b) = .ok (.bl false) := by rw [ne_ii, decide_eq_true h]; rfl
theorem mul_ii (h : (-(2 ^ 64) < a ∧ a < 2 ^ 64) ∨ (-(2 ^ 64) < b ∧ b < 2 ^ 64)) : pyMul (.int a) (.int b) = .ok (.int (a * b)) := if_pos h
theorem mod_ii (h : 0 < b) : pyMod (.int a) (.int b) = .ok (.int (a % b)) := if_pos h
theorem div_ii (h : 0 < b ∧ b < 1073741824) : pyDiv (.int a) (.int b) = .ok (.int (a / b)) := if_pos h
theorem range_i (h : -(2 ^ 62) ≤ a ∧ a < 2 ^ 62) : pyRange1 [.int a] = .ok (rangeD 0 a.toNat) := if_pos h
end
theorem unL3_at {α : Type} {z : α} {a b c : D} {k : D → D → D → α} : unL3 z [a, b, c] k = k a b c := id rfl
theorem un2_t {α : Type} {z : α} {a b : D} {k : D → D → α} : un2 z (.tup [a, b]) k = k a b := id rfl
theorem un3_t {α : Type} {z : α} {a b c : D} {k : D → D → D → α} : un3 z (.tup [a, b, c]) k = k a b c := id rfl
theorem un4_l {α : Type} {z : α} {a b c d : D} {k : D → D → D → D → α} : un4 z (.lst [a, b, c, d]) k = k a b c d := id rfl
section
variable {X S : Type}
theorem forC_inv {f : D → S → Ctl X S} (Inv : Nat → S → Prop) : ∀ {ds : List D} {i : Nat} {s : S}, (∀ (j : Nat) d s, ds[j]? = some d → Inv (i + j) s → ∃ s', f d s = .nx s' ∧ Inv (i + j + 1) s') → Inv i s → ∃ s', forC f ds s = .nx s' ∧ Inv (i + ds.length) s'
  | [], i, s, _, h0 => ⟨s, rfl, h0⟩
  | d :: ds, i, s, h, h0 => by
    obtain ⟨s1, e1, h1⟩ := h 0 d s rfl h0
    obtain ⟨s2, e2, h2⟩ := forC_inv Inv (ds := ds) (i := i + 1) (s := s1) (fun j d s hj hi => by
      have := h (j + 1) d s (by simpa using hj) (by rw [← Nat.add_assoc, Nat.add_right_comm]; exact hi)
      rw [show i + 1 + j + 1 = i + (j + 1) + 1 by omega]
      exact this) h1
    refine ⟨s2, ?_, by rw [List.length_cons]; rw [show i + (ds.length + 1) = i + 1 + ds.length by omega]; exact h2⟩
    show (f d s).bind (forC f ds) = _
    rw [e1]
    exact e2
theorem range_at {lo : Int} {n j : Nat} {d : D} (h : (rangeD lo n)[j]? = some d) : j < n ∧ d = .int (lo + j) := by
  unfold rangeD at h
  rw [List.getElem?_map] at h
  by_cases hj : j < n
  · rw [List.getElem?_range hj] at h
    cases h
    exact ⟨hj, rfl⟩
  · rw [List.getElem?_eq_none (by simpa using hj)] at h
    cases h
theorem range_len {lo : Int} {n : Nat} : (rangeD lo n).length = n := by unfold rangeD; simp
theorem forR_inv {f : D → S → Ctl X S} {n : Nat} {s : S} (Inv : Nat → S → Prop) (h : ∀ (j : Nat) s, j < n → Inv j s → ∃ s', f (.int j) s = .nx s' ∧ Inv (j + 1) s') (h0 : Inv 0 s) : ∃ s', forC f (rangeD 0 n) s = .nx s' ∧ Inv n s' := by
  obtain ⟨s', e, q⟩ := forC_inv Inv (f := f) (ds := rangeD 0 n) (i := 0) (s := s) (fun j d s hj hi => by
    obtain ⟨hl, rfl⟩ := range_at hj
    rw [Nat.zero_add] at hi ⊢
    rw [Int.zero_add]
    exact h j s hl hi) h0
  rw [range_len, Nat.zero_add] at q
  exact ⟨s', e, q⟩
end
section
variable {X S T : Type}
def RetIs (c : Ctl X S) (R : D → Prop) : Prop := ∃ d, c = .ret d ∧ R d
def NxIs (c : Ctl X S) (R : S → Prop) : Prop := ∃ s, c = .nx s ∧ R s
theorem RetIs.mk {d : D} {R : D → Prop} (h : R d) : RetIs (.ret d : Ctl X S) R := ⟨d, rfl, h⟩
theorem NxIs.mk {s : S} {R : S → Prop} (h : R s) : NxIs (.nx s : Ctl X S) R := ⟨s, rfl, h⟩
theorem NxIs.ret {c : Ctl X S} {k : S → Ctl X T} {P : S → Prop} {R : D → Prop} (h : NxIs c P) (hk : ∀ s, P s → RetIs (k s) R) : RetIs (c.bind k) R := by
  obtain ⟨s, rfl, p⟩ := h
  exact hk s p
theorem NxIs.nx {c : Ctl X S} {k : S → Ctl X T} {P : S → Prop} {R : T → Prop} (h : NxIs c P) (hk : ∀ s, P s → NxIs (k s) R) : NxIs (c.bind k) R := by
  obtain ⟨s, rfl, p⟩ := h
  exact hk s p
theorem loop_nx {f : D → S → Ctl X S} {ds : List D} {s : S} (Inv : Nat → S → Prop) (h0 : Inv 0 s) (h : ∀ (j : Nat) d s, ds[j]? = some d → Inv j s → NxIs (f d s) (Inv (j + 1))) : NxIs (forC f ds s) (Inv ds.length) := by
  obtain ⟨s', e, q⟩ := forC_inv Inv (f := f) (ds := ds) (i := 0) (s := s) (fun j d s hj hi => by rw [Nat.zero_add] at hi ⊢; exact h j d s hj hi) h0
  rw [Nat.zero_add] at q
  exact ⟨s', e, q⟩
theorem loopR_nx {f : D → S → Ctl X S} {n : Nat} {s : S} (Inv : Nat → S → Prop) (h0 : Inv 0 s) (h : ∀ (j : Nat) s, j < n → Inv j s → NxIs (f (.int j) s) (Inv (j + 1))) : NxIs (forC f (rangeD 0 n) s) (Inv n) := forR_inv Inv (fun j s hj hi => h j s hj hi) h0
end
def outF {X S : Type} (s : S) : Option D → Ctl X S
  | some r => .ret r
  | none => .nx s
section
variable {X S : Type}
theorem loopM_find {α : Type} {f : D → Unit → Ctl X Unit} (h : α → D) (g : α → Option D) : ∀ {xs : List α}, (∀ x ∈ xs, f (h x) () = outF () (g x)) → forC f (xs.map h) () = outF () (xs.findSome? g)
  | [], _ => rfl
  | x :: xs, k => by
    show (f (h x) ()).bind (forC f (xs.map h)) = _
    rw [k x (by simp), List.findSome?_cons]
    cases g x with
    | some r => rfl
    | none => exact loopM_find h g fun e he => k e (by simp [he])
theorem rangeD_map (n : Nat) : rangeD 0 n = (List.range n).map fun j : Nat => D.int j := by
  unfold rangeD
  simp
theorem loopR_find {f : D → Unit → Ctl X Unit} {n : Nat} (g : Nat → Option D) (h : ∀ j : Nat, j < n → f (.int j) () = outF () (g j)) : forC f (rangeD 0 n) () = outF () ((List.range n).findSome? g) := by
  rw [rangeD_map]
  exact loopM_find _ g fun x hx => h x (List.mem_range.mp hx)
theorem loop_st {f : D → S → Ctl X S} : ∀ {ds : List D} (g : Nat → S), (∀ (j : Nat) d, ds[j]? = some d → f d (g j) = .nx (g (j + 1))) → forC f ds (g 0) = .nx (g ds.length)
  | [], _, _ => rfl
  | d :: ds, g, h => by
    show (f d (g 0)).bind (forC f ds) = _
    rw [h 0 d rfl]
    exact loop_st (fun j => g (j + 1)) fun j d hj => h (j + 1) d (by simpa using hj)
theorem loopR_st {f : D → S → Ctl X S} {n : Nat} (g : Nat → S) (h : ∀ j : Nat, j < n → f (.int j) (g j) = .nx (g (j + 1))) : forC f (rangeD 0 n) (g 0) = .nx (g n) := by
  have := loop_st (f := f) (ds := rangeD 0 n) g fun j d hj => by
    obtain ⟨hl, rfl⟩ := range_at hj
    rw [Int.zero_add]
    exact h j hl
  rw [range_len] at this
  exact this
@[simp] theorem outF_some {r : D} {s : S} : (outF s (some r) : Ctl X S) = .ret r := id rfl
@[simp] theorem outF_none {s : S} : (outF s none : Ctl X S) = .nx s := id rfl
end
theorem compL_map {α : Type} {f : D → M (List D)} (h : α → D) (g : α → List D) : ∀ {xs : List α}, (∀ x ∈ xs, f (h x) = .ok (g x)) → compL f (xs.map h) = .ok (xs.flatMap g)
  | [], _ => rfl
  | x :: xs, k => by
    show (f (h x)).bind (fun ys => (compL f (xs.map h)).bind fun r => .ok (ys ++ r)) = _
    rw [k x (by simp), compL_map h g fun e he => k e (by simp [he])]
    rfl
theorem compR {f : D → M (List D)} {n : Nat} (g : Nat → List D) (h : ∀ j : Nat, j < n → f (.int j) = .ok (g j)) : compL f (rangeD 0 n) = .ok ((List.range n).flatMap g) := by
  rw [rangeD_map]
  exact compL_map _ g fun x hx => h x (List.mem_range.mp hx)
theorem sz_big {n : Nat} (h : n < 1000000) : n < sizeLine := by rw [sizeLine_eq]; omega
theorem lcM_ok {i : M (List D)} {f : D → M (List D)} {ds r : List D} (hi : i = .ok ds) (h : compL f ds = .ok r) (hl : r.length < 1000000) : lcM i f = .ok (.lst r) := by
  unfold lcM
  rw [hi]
  show ((compL f ds).nox).bind mkLst = _
  rw [h]
  show mkLst r = _
  unfold mkLst
  rw [if_pos (Nat.le_of_lt (sz_big hl))]
theorem elM_t {e : M D} {d : D} (h : e = .ok d) : elM (.ok true) e = .ok [d] := by rw [h]; rfl
theorem elM_f {e : M D} : elM (.ok false) e = .ok [] := rfl
theorem inM_t {i : M (List D)} {f : D → M (List D)} {ds : List D} (h : i = .ok ds) : inM (.ok true) i f = compL f ds := by rw [h]; rfl
theorem tup_ok {ds : List D} (h : ds.length < 1000000) : mkTup ds = .ok (.tup ds) := if_pos (Nat.le_of_lt (sz_big h))
theorem lst_ok {ds : List D} (h : ds.length < 1000000) : mkLst ds = .ok (.lst ds) := if_pos (Nat.le_of_lt (sz_big h))
theorem tup2 {a b : D} : b1 mkTup (mlist [.ok a, .ok b]) = .ok (.tup [a, b]) := show mkTup [a, b] = _ from tup_ok (by simp)
theorem tup3 {a b c : D} : b1 mkTup (mlist [.ok a, .ok b, .ok c]) = .ok (.tup [a, b, c]) := show mkTup [a, b, c] = _ from tup_ok (by simp)
theorem tup4 {a b c d : D} : b1 mkTup (mlist [.ok a, .ok b, .ok c, .ok d]) = .ok (.tup [a, b, c, d]) := show mkTup [a, b, c, d] = _ from tup_ok (by simp)
theorem tup5 {a b c d e : D} : b1 mkTup (mlist [.ok a, .ok b, .ok c, .ok d, .ok e]) = .ok (.tup [a, b, c, d, e]) := show mkTup [a, b, c, d, e] = _ from tup_ok (by simp)
end Mir
set_option maxHeartbeats 2000000
namespace L2
open PySem PySem.Spec PyProof.Rows
section
variable {prog : Program} {w : World} {A : Around} {s : Shared}
theorem lam_key {f c' C dp : Addr} {qn xb xq : Str} {params : Arguments} {scope : Scope} {cl : List (Str × Addr)} {pm ctv u v : Value} {vs : List (Key × Value)} {k : Key} {p1 p2 p3 : Pos}
    (hf : s.heap.get? f = some (PySem.W.kla_obj "<lambda>" qn params (.Subscript (.Name xb p1) (.Name xq p2) p3) scope cl pm c' ctv)) (hroom : A.depth < recursionLimit) (hco : scope.isCoroutine = false) (hgen : scope.isGenerator = false) (hkind : scope.kind = .function)
    (hcode : s.heap.CodeRec (.ref c') qn) (hbind : bindArgs (PySem.W.kla_fn "<lambda>" qn params (.Subscript (.Name xb p1) (.Name xq p2) p3) scope cl pm (.ref c') ctv) ⟨[u], []⟩ = pure [(xq, u)])
    (hnc : ∀ y ∈ scope.names, y.2 ≠ .cell) (hq : scope.names.lookup xq = some .local) (hb : scope.names.lookup xb = some .free) (hcl : cl.lookup xb = some C) (hC : s.heap.IsCell C (some (.ref dp))) (lim : s.heap.NoLimit)
    (dd : s.heap.DictOf (mixKind prog w) dp vs) (hk : (mixKind prog w).is k u = true) (hv : valueAt vs k = some v)
    (d1 : (xb == ("__debug__" : Str)) = false) (d2 : (xq == ("__debug__" : Str)) = false) (d3 : (xb == ("__classdict__" : Str)) = false) :
    wpAny (model prog w) A (call (.ref f) [u]) (fun r s2 => r = v ∧ ∃ h' tk, s2 = { s with heap := h', toks := tk } ∧ ∀ b o, s.heap.get? b = some o → h'.get? b = some o) (fun _ _ => False) s := by
  have rc : codeAny (model prog w) A (.call (.ref f) ⟨[u], []⟩) (fun r s2 => r = .ok (.ret v) ∧ ∃ h' tk, s2 = { s with heap := h', toks := tk } ∧ ∀ b o, s.heap.get? b = some o → h'.get? b = some o) s := by
    refine PySem.W.kla_callFunE hroom hf rfl hco hgen rfl hcode ?_
    rw [hbind]
    refine wpAny_pure (wpAny_newFunctionEnv hnc (fun y hy => by rw [List.mem_singleton.mp hy]; exact hq) (fun h1 hns hsb => ⟨lim.fresh _ hsb, ?_⟩) hkind)
    show codeAny _ _ (.expr _ (PySem.W.envX qn scope s.heap.objs.size f (.ref c') cl)) _ _
    have kp : ∀ b o, s.heap.get? b = some o → h1.get? b = some o := fun b o e => hsb.extBut b o (Nat.ne_of_lt (Heap.lt_size e)) (Heap.get?_push_of_some _ e)
    have dd1 := dd.keep kp
    have hC1 : h1.IsCell C (some (.ref dp)) := by
      obtain ⟨o, ho, hd⟩ := hC
      exact ⟨o, kp _ _ ho, hd⟩
    refine PySem.W.kla_codeExpr ?_
    refine subD_of PySem.F.slot_dict_getitem.lookup (fun _ _ => rfl) ?_
    refine wpAny_Name (wpAny_loadName_free hkind hb hcl hC1 ?_ d3) d1
    refine wpAny_Name (wpAny_loadName_local hkind hq hns (show ([(xq, u)] : List (Str × Value)).reverse.lookup xq = some u by simp) ?_) d2
    refine ⟨dd1.typeIs, wpAny_getItem_of hk dd1.mapOf hv ?_⟩
    exact ⟨rfl, h1, _, rfl, kp⟩
  refine wpAny_call (codeAny_mono rc fun r s2 h => ?_)
  obtain ⟨rfl, h⟩ := h
  exact ⟨rfl, h⟩
end
def sortK (kf : Int → Int) (ns : List Int) : List Int := ns.mergeSort fun a b => decide (kf a ≤ kf b)
def TblK (H H' : Hp) : Prop := ∀ b ps, H b = some (.tbl ps) → ∃ qs, H' b = some (.tbl qs)
def tSortL (K : PySem.W.Frag) (Hz : Hp) (T : List (Addr × Str)) (i : Nat) (te : TE) : TE := fun σ H Q => te σ H fun x H1 => ∃ (a dp : Addr) (ns : List Int) (kvs : List (Key × V)) (kf : Int → Int), x = .ref a ∧ SqL K H1 a (ns.map V.int) ∧ σ[i]? = some (some (.ref dp)) ∧ Rd H1 dp (.dK kvs) ∧
  (∀ z ∈ ns, valV kvs (.inl z) = some (.int (kf z))) ∧ LamX.Tabs T H1 ∧ ∀ H2 p, LamX.ExtN H1 H2 → TblK Hz H2 → LamX.Tabs T H2 → H2 p = none → Q (.ref p) (upd H2 p (.lst ((sortK kf ns).map V.int)))
theorem each_ints : ∀ {ns : List Int} {its : List Value}, Vals (ns.map V.int) its → PySem.W.EachIs (fun (v : Value) (z : Int) => ∃ t, v = .int z t) its ns := by
  intro ns
  induction ns with
  | nil =>
    intro its r
    cases r
    exact .nil
  | cons z ns ih =>
    intro its r
    cases r with
    | cons h t => exact .cons h (ih t)
theorem vals_each {its : List Value} {ns : List Int} (e : PySem.W.EachIs (fun (v : Value) (z : Int) => ∃ t, v = .int z t) its ns) : Vals (ns.map V.int) its := by
  induction e with
  | nil => exact .nil
  | cons h _ ih => exact .cons h ih
theorem rd_extN {H H' : Hp} {a : Addr} {u : HO} (eN : LamX.ExtN H H') (h : Rd H a u) (n : ∀ ps, u ≠ .tbl ps) : Rd H' a u := by
  rcases h with z | ⟨o, z⟩
  · exact .inl (eN _ _ z n)
  · exact .inr ⟨o, eN _ _ z (fun _ => by simp)⟩
theorem sql_extN {K : PySem.W.Frag} {H H' : Hp} {a : Addr} {xs : List V} (eN : LamX.ExtN H H') (h : SqL K H a xs) : SqL K H' a xs := by
  rcases h with z | z
  · exact .inl (rd_extN eN z (fun _ => by simp))
  · exact .inr z
section
variable {X : Cx} {T : List (Addr × Str)} {c P : Addr} {i k : Nat} {xb xq : Str} {te : TE} {e : Expr} {p p1 p2 p3 lpos kpos pos : Pos} {params : Arguments} {scope : Scope}
theorem pe_sortL (he : PE X e te) (TB : LamX.TabB X.base X.mg c P) (hcode : X.env.code = .ref c) (hm : (P, X.env.qual ++ "<lambda>") ∈ T) (hu : ∀ q ∈ T, q.1 = P → q.2 = X.env.qual ++ "<lambda>") (hr : Room (k + 2) X.A) (hg : Gl X "sorted") (hmg : X.mg "sorted" = none)
    (hN : X.N[i]? = some xb) (hcell : X.env.scope.names.lookup xb = some .cell) (hdef : defaultsOf params X.env = ([], [])) (hco' : scope.isCoroutine = false) (hgen : scope.isGenerator = false) (hkind : scope.kind = .function)
    (hbind : ∀ (q : Str) (cl : List (Str × Addr)) (pm cv ctv u : Value), bindArgs (PySem.W.kla_fn "<lambda>" q params (.Subscript (.Name xb p1) (.Name xq p2) p3) scope cl pm cv ctv) ⟨[u], []⟩ = pure [(xq, u)])
    (hnc : ∀ y ∈ scope.names, y.2 ≠ .cell) (hfr : ∀ y ∈ scope.names, y.2 = .free → y.1 = xb) (hq : scope.names.lookup xq = some .local) (hb : scope.names.lookup xb = some .free)
    (d1 : (xb == ("__debug__" : Str)) = false := by decide) (d2 : (xq == ("__debug__" : Str)) = false := by decide) (d3 : (xb == ("__classdict__" : Str)) = false := by decide)
    (hst : backTo pos (starEach [e] X.env) = (false, eval e X.env) :: backTo pos (starEach [] X.env) := by rfl) (hpl : (backTo pos (starEach [e] X.env)).any (·.1) = false := by rfl) :
    PE X (.Call (.Name "sorted" p) [e] [⟨some "key", .Lambda params (.Subscript (.Name xb p1) (.Name xq p2) p3) scope lpos, kpos⟩] pos) (tSortL X.K X.H_0 T i te) := by
  refine ⟨fun pins s σ H Q I h => ?_⟩
  refine wpAny_Call_Name_kw (ld_blt I hg hmg (by rfl) ?_ (by decide))
  refine PyProof.Rows.callWith_kw ?_ hst hpl (by rfl) (by rfl)
  rw [hst]
  refine Calls.spliced_cons (thn (he.run pins s σ H _ I h) fun xv s1 ⟨x, H1, I1, rx, a, dp, ns, kvs, kf, ex, hl, hσ, hd, hkv, hT, q⟩ => ?_)
  refine Calls.spliced_nil ?_
  subst ex
  obtain rfl : xv = Value.ref a := rx
  have hfree : ∀ y ∈ scope.names, y.2 = .free → ∃ c, X.env.cells.lookup y.1 = some c := fun y hy e => by
    rw [hfr y hy e]
    exact I1.ok.has _ (.inl hcell)
  show wpAny _ _ (evalAll ((do let v ← eval (.Lambda params (.Subscript (.Name xb p1) (.Name xq p2) p3) scope lpos) X.env; standAt pos; pure v) :: [])) _ _ s1
  refine wpAny_evalAll_cons (wpAny_bind (LamX.lam_make2 I1 TB hcode hm hu hT hdef hfree fun f c' pm ctv H2 s2 I2 eN T2 hf hfn hfr hco => wpAny_bind (wpAny_standAt (wpAny_pure (wpAny_evalAll_nil ?_)))))
  show wpAny _ _ (call (.builtin "sorted") [.ref a] [(Str.ofString "key", .ref f)]) _ _ _
  have I3 := I2
  obtain ⟨its, rv, hli, hz⟩ := I3.list (sql_extN eN hl)
  have hdk : Rd H2 dp (.dK kvs) := rd_extN eN hd (fun _ => by simp)
  obtain ⟨zz, hds, vs, rel, dd⟩ := dk_rd I3.hok hdk
  obtain ⟨⟨oc, vc, t, hoc, hdc, hvc⟩, _, _⟩ := I3.hok c' _ hco
  obtain ⟨m, hns, hloc⟩ := I3.loc
  obtain ⟨u, ru, look⟩ := hloc i xb (.ref dp) hN hσ (.inr (.inl hcell))
  obtain rfl : u = Value.ref dp := ru
  obtain ⟨C, hC, hIC⟩ : ∃ C, X.env.cells.lookup xb = some C ∧ s2.heap.IsCell C (some (.ref dp)) := by
    rcases look with ⟨k', _⟩ | ⟨_, c3, e', z⟩
    · have k' : X.env.scope.names.lookup xb = some .local := k'
      rw [hcell] at k'
      cases k'
    · exact ⟨c3, e', z⟩
  obtain ⟨C', hcl⟩ : ∃ c, (cloFrom X.env.cells scope.names []).lookup xb = some c := mem_lookup (cloFrom_has (cells := X.env.cells) (acc := []) (PySem.mem_of_lookup hb))
  have hCC : C' = C := by
    rcases cloFrom_mem (PySem.mem_of_lookup hcl) with hm | ⟨h1, h2⟩
    · cases hm
    · rw [h2, hC] <;> rfl
  subst hCC
  have each := each_ints rv
  refine PySem.W.sorted_key_data (b := false) (fun z => PyData.int (kf z)) hli.isList each (PySem.W.AllAlike.of fun _ _ => by simp [PySem.W.alike]) ?_ ?_ ?_ (PyProof.Rows.ksk_s1 _ _) (fun _ => PyProof.Rows.ksk_l1 _ _) (fun _ => PyProof.Rows.ksk_t1 _ _) ?_ ?_
  · exact .inr fun d hd => by
      obtain ⟨z, _, rfl⟩ := List.mem_map.mp hd
      exact ⟨by simp, fun _ => by simp⟩
  · simpa using hz
  · intro z _
    have := hr.un
    show X.A.units + 2 + 0 < cLine
    omega
  · intro v z ⟨t', ev⟩ hzm h tk kp
    subst ev
    obtain ⟨w', hw, rw'⟩ := RelO.some_of (v := V.int (kf z)) (o := valueAt vs (.inl z)) (by rw [← hkv z hzm]; exact rel.val _)
    obtain ⟨tw, rfl⟩ : ∃ t, w' = .int (kf z) t := rw'
    refine wpAny_mono (lam_key (s := { s2 with heap := h, toks := tk }) (kp _ _ hf) hr.depth hco' hgen hkind ⟨c', oc, vc, t, rfl, kp _ _ hoc, hdc, hvc⟩ (hbind _ _ _ _ _ _) hnc hq hb hcl ?_ (I2.nolimit.keeps kp) (dd.keep kp) (kV_is (k := .inl z) ⟨t', rfl⟩) hw d1 d2 d3) (fun r s3 hh => ?_) fun _ _ z => z
    · obtain ⟨o, ho, hd'⟩ := hIC
      exact ⟨o, kp _ _ ho, hd'⟩
    · obtain ⟨rfl, h', tk', e, k'⟩ := hh
      exact ⟨h', tk', e, k', .int ..⟩
  · intro out c'' h' tk kp hfresh hnew hlen hout
    rw [PySem.W.dataLe_int] at hout
    have vo := vals_each hout
    have hlen' : ((sortK kf ns).map V.int).length ≤ sizeLine := by
      rw [List.length_map]
      unfold sortK
      rw [List.length_mergeSort]
      simpa using hz
    exact ⟨.ref _, upd H2 (s2.heap.objs.size + 1) (.lst ((sortK kf ns).map V.int)), I2.laid (t' := tk) kp (Nat.le_succ _) ⟨hlen', out, c'', vo, hnew⟩, rfl, q _ _ eN (fun b ps e => let ⟨more, z⟩ := I2.base.tbls b ps e; ⟨_, z⟩) T2 (I2.hok.fresh (Nat.le_succ _))⟩
end
end L2
namespace Mir
open PySem PySem.Spec L2
section
variable {F : Fm} {Γ : Gam} {a b : Expr} {ma mb : M D} {pos : Pos}
end
end Mir
namespace Mir
open PySem PySem.Spec L2
open PyProof.Rows (envOfC)
def spE2 (C : Addr) (f1 f2 : Str) : Sp := fun vs H Q E => ∃ a v v2, vs = [.ref a, v, v2] ∧ H a = some (exo a C none) ∧ ∀ dx, H dx = none → dx ≠ a → Q .non (upd (upd (upd H dx (exd dx [(f1, v)])) a (exo a C (some dx))) dx (exd dx [(f2, v2), (f1, v)]))
structure ExI2 (P : Program) (K : PySem.W.Frag) (C cc cda : Addr) (scope : Scope) (qual par par2 fl fl2 : Str) : Prop where
  o : ExI P K C cc cda scope qual par fl
  fld : PySem.W.findIn K (.ref C) fl2 = some none
  pal : scope.names.lookup par2 = some .local
  npa : par2 ≠ ("self" : Str)
  npp : par2 ≠ par
section
variable {P : Program} {w : World} {K : PySem.W.Frag} {mg : Str → Option Value} {base : Heap} {C cc cda f : Addr} {scope : Scope} {qual par par2 fl fl2 : Str}
end
section
variable {F : Fm} {Γ : Gam} {X S : Type} {fx : X → Gam} {fs : S → Gam} {x0 : X} {a b c e o : Expr} {es : List Expr} {ma mb mc m mo me : M D} {ml : M (List D)} {pos apos : Pos} {rest : List Stmt}
structure ExF2 (G : GG) (k : Nat) (x : Str) (c : Nat) (fl fl2 : Str) : Prop where
  ex : ∃ (C fI : Addr) (fd : FuncData) (par par2 : Str) (j : Nat), j + 1 ≤ k ∧ G.xc c = .ref C ∧ G.mg x = some (.ref C) ∧ OexC G.K C ∧ PySem.W.findIn G.K (.ref C) "__init__" = some (some (.ref fI)) ∧ PySem.W.typeIn G.K (.ref fI) = some (.type "function") ∧
    FnOk G.P G.w G.K G.mg G.base (L2.CX G.P G.w) j fI fd ["self", par, par2] (spE2 C fl fl2) ∧ Binds G.K fd ["self", par, par2] []
theorem ExF2.mono {G : GG} {j k c : Nat} {x fl fl2 : Str} (h : ExF2 G j x c fl fl2) (l : j ≤ k) : ExF2 G k x c fl fl2 := by
  obtain ⟨C, fI, fd, par, par2, i, hi, r⟩ := h.ex
  exact ⟨C, fI, fd, par, par2, i, Nat.le_trans hi l, r⟩
def exnF2 {X S : Type} (c : Nat) (fl fl2 : Str) (x0 : X) : List D → Ctl X S
  | [d, d2] => .exn ⟨c, [(fl2, d2), (fl, d)]⟩ x0
  | _ => .stk
end
section
variable {F : Fm} {Γ : Gam} {a b : Expr} {ma mb : M D} {pos : Pos}
end
end Mir
namespace Mir
open PySem PySem.Spec L2
open PyProof.Rows (envOfC)
structure StaK (G : GG) (k : Nat) (x n : Str) (m : List D → M D) : Prop where
  ex : ∃ (C p f : Addr) (mc : Value) (rest : List Value) (fd : FuncData) (ps : List Str) (j : Nat), j ≤ k ∧ FnOk G.P G.w G.K G.mg G.base (L2.CX G.P G.w) j f fd ps (spM G m) ∧ G.mg x = some (.ref C) ∧ ClX.CRead G.K C mc ∧
    PySem.W.findCls G.K (.ref C) mc n = some (.get (.builtin "staticmethod.__get__") (.ref p) .none (.ref C)) ∧ PySem.W.recIn G.K p "staticmethod" = some (.ref f :: rest) ∧ PySem.W.keepIn G.K (.ref f) = true ∧ Binds G.K fd ps []
  db : (x == ("__debug__" : Str)) = false
theorem StaK.mono {G : GG} {j k : Nat} {x n : Str} {m : List D → M D} (h : StaK G j x n m) (l : j ≤ k) : StaK G k x n m := by
  obtain ⟨C, p, f, mc, rest, fd, ps, i, hi, r⟩ := h.ex
  exact ⟨⟨C, p, f, mc, rest, fd, ps, i, Nat.le_trans hi l, r⟩, h.db⟩
section
variable {F : Fm} {Γ : Gam} {e : Expr} {es : List Expr} {ml : M (List D)} {pos apos : Pos}
end
end Mir
namespace Mir
open PySem PySem.Spec L2
open PyProof.Rows (envOfC)
open RZ
section
variable {F : Fm} {Γ : Gam} {a b : Expr} {pos : Pos} {G : GG} {S : Hp}
end
end Mir
namespace Mir
open PySem PyProof.Rows Srt SrtO
section
variable {prog : Program} {w : World} {A : Around} {s : Shared}
end
end Mir
namespace Mir
open PySem PySem.Spec L2
open PyProof.Rows (envOfC)
section
variable {F : Fm} {Γ : Gam} {e : Expr} {es : List Expr} {pos : Pos}
end
theorem noNx_exnF {X S : Type} {c : Nat} {f : Str} {x0 : X} {ds : List D} : (exnF (S := S) c f x0 ds).noNx := by
  intro s h
  match ds, h with
  | [], h => cases h
  | [_], h => cases h
  | _ :: _ :: _, h => cases h
end Mir
namespace Mir
open PySem PySem.Spec L2
theorem lsx1 {α : Type} : ∀ {us : List α}, us.length = 1 → ∃ a, us = [a]
  | [a], _ => ⟨a, rfl⟩
theorem lsx2 {α : Type} : ∀ {us : List α}, us.length = 2 → ∃ a b, us = [a, b]
  | [a, b], _ => ⟨a, b, rfl⟩
theorem lsx3 {α : Type} : ∀ {us : List α}, us.length = 3 → ∃ a b c, us = [a, b, c]
  | [a, b, c], _ => ⟨a, b, c, rfl⟩
theorem lsx4 {α : Type} : ∀ {us : List α}, us.length = 4 → ∃ a b c d, us = [a, b, c, d]
  | [a, b, c, d], _ => ⟨a, b, c, d, rfl⟩
theorem lsx5 {α : Type} : ∀ {us : List α}, us.length = 5 → ∃ a b c d e, us = [a, b, c, d, e]
  | [a, b, c, d, e], _ => ⟨a, b, c, d, e, rfl⟩
theorem lsx6 {α : Type} : ∀ {us : List α}, us.length = 6 → ∃ a b c d e f, us = [a, b, c, d, e, f]
  | [a, b, c, d, e, f], _ => ⟨a, b, c, d, e, f, rfl⟩
theorem noNx_exnF2 {X S : Type} {c : Nat} {f g : Str} {x0 : X} {ds : List D} : (exnF2 (S := S) c f g x0 ds).noNx := by
  intro s h
  match ds, h with
  | [], h => cases h
  | [_], h => cases h
  | [_, _], h => cases h
  | _ :: _ :: _ :: _, h => cases h
end Mir
namespace Mir
open PySem PySem.Spec L2 SeqAt
section
variable {prog : Program} {w : World} {K : Type} [DecidableEq K] {knd : HeapKind prog w K} {A : Around} {E : Value → Shared → Prop} {s : Shared}
inductive HitsH (prog : Program) (w : World) (A : Around) (s : Shared) (kb : List (K × Addr × Value)) : List (K × Addr × Value) → Bool → Prop
  | nil : HitsH prog w A s kb [] true
  | miss {k : K} {p : Addr × Value} {r : List (K × Addr × Value)} : atKey kb k = none → HitsH prog w A s kb ((k, p) :: r) false
  | hit {k : K} {p q : Addr × Value} {r : List (K × Addr × Value)} {e b : Bool} : atKey kb k = some q → EqP prog w A s p.2 q.2 e → HitsH prog w A s kb r b → HitsH prog w A s kb ((k, p) :: r) (e && b)
end
end Mir
namespace PySem.SeqAt
open AutoSeq1 (wpAny_loadPart')
open MeetsSeq MeetsSeq2 MeetsSeq3 SeqRoads2
section
variable {prog : Program} {w : World}
variable {A : Around} {E : Value → Shared → Prop} {s : Shared}
end
end PySem.SeqAt
namespace Mir
open PySem PySem.Spec L2 SeqAt
def isIx : D → Bool
  | .int _ => true
  | _ => false
section
variable {G : GG} {X : Cx} {pins : List (Addr × Obj)} {σ : L2.St} {S H : Hp} {s : Shared} {A : Around}
theorem rep_int {v : V} {d : D} (r : Rep G S v d) (h : isIx d = true) : ∃ i, v = .int i ∧ d = .int i := by
  cases r <;> first | exact ⟨_, rfl, rfl⟩ | exact absurd h Bool.false_ne_true
theorem all_snd {a : List (List Key × D)} (h : (a.all fun p => isIx p.2) = true) : ∀ d ∈ a.map (·.2), isIx d = true := fun d hd => by
  obtain ⟨p, hp, e⟩ := List.mem_map.mp hd
  rw [← e]
  exact List.all_eq_true.mp h p hp
end
section
variable {F : Fm}
end
end Mir
namespace Mir
open PySem
open Sem (wp)
def ng : Frame → Bool
  | .gen _ _ _ _ _ => false
  | _ => true
def ngs : GenState → Prop
  | .suspended _ _ _ _ fs _ => fs.all ng = true
  | _ => True
def poi : GenState → GenState
  | .suspended _ l c p fs cl => .suspended (fun _ => .unsupported "asleep") l c p fs cl
  | x => x
def slp : GenState → Bool
  | .suspended _ _ _ _ _ _ => true
  | _ => false
theorem poi_bare (x : GenState) : (poi x).bare = x.bare := by cases x <;> rfl
inductive GE (o : Option GenState) : GenState → GenState → Prop
  | same {a : GenState} : ngs a → (∀ b, o = some b → slp b = false) → GE o a a
  | poi {b : GenState} : o = some b → slp b = true → GE o (poi b) b
structure GRel (G0 a b : Array GenState) : Prop where
  size : a.size = b.size
  big : G0.size ≤ a.size
  at_ : ∀ (i : Nat) x y, a[i]? = some x → b[i]? = some y → GE G0[i]? x y
theorem GRel.get {G0 a b : Array GenState} (r : GRel G0 a b) {i : Nat} {x : GenState} (h : a[i]? = some x) : ∃ y, b[i]? = some y ∧ GE G0[i]? x y := by
  have hi : i < b.size := by rw [← r.size]; exact (Array.getElem?_eq_some_iff.mp h).1
  exact ⟨b[i], Array.getElem?_eq_getElem hi, r.at_ i x _ h (Array.getElem?_eq_getElem hi)⟩
theorem GRel.set {G0 a b : Array GenState} (r : GRel G0 a b) {g : Nat} (hg : ∀ b, G0[g]? = some b → slp b = false) {z : GenState} (hz : ngs z) : GRel G0 (a.setIfInBounds g z) (b.setIfInBounds g z) := by
  refine ⟨by simp [r.size], by simpa using r.big, fun i x y h1 h2 => ?_⟩
  rw [Array.getElem?_setIfInBounds] at h1 h2
  by_cases e : g = i
  · rw [if_pos e] at h1 h2
    split at h1
    · rename_i q1
      have q2 : g < b.size := by rw [← r.size]; exact q1
      rw [if_pos q2] at h2
      cases h1; cases h2
      exact .same hz (by rw [← e]; exact hg)
    · cases h1
  · rw [if_neg e] at h1 h2
    exact r.at_ i x y h1 h2
theorem GRel.push {G0 a b : Array GenState} (r : GRel G0 a b) {z : GenState} (hz : ngs z) : GRel G0 (a.push z) (b.push z) := by
  refine ⟨by simp [r.size], Nat.le_trans r.big (by simp), fun i x y h1 h2 => ?_⟩
  rw [Array.getElem?_push] at h1 h2
  by_cases e : i = a.size
  · rw [if_pos e] at h1
    rw [if_pos (by rw [← r.size]; exact e)] at h2
    cases h1; cases h2
    have hb := r.big
    exact .same hz fun b q => absurd (Array.getElem?_eq_some_iff.mp q).1 (by omega)
  · rw [if_neg e] at h1
    rw [if_neg (by rw [← r.size]; exact e)] at h2
    exact r.at_ i x y h1 h2
theorem GRel.start (G0 : Array GenState) : GRel G0 (G0.map poi) G0 := by
  refine ⟨by simp, by simp, fun i x y h1 h2 => ?_⟩
  rw [Array.getElem?_map, h2] at h1
  cases h1
  cases y with
  | suspended k l c p fs cl => exact .poi h2 rfl
  | _ => exact .same trivial fun b q => by rw [h2] at q; cases q; rfl
theorem GRel.bare {G0 a b : Array GenState} (r : GRel G0 a b) (h : ∀ x ∈ a, x.bare = true) : ∀ x ∈ b, x.bare = true := by
  intro y hy
  obtain ⟨i, hi, rfl⟩ := Array.mem_iff_getElem.mp hy
  have hi' : i < a.size := by rw [r.size]; exact hi
  have hx := h a[i] (Array.getElem_mem hi')
  have q := r.at_ i a[i] b[i] (Array.getElem?_eq_getElem hi') (Array.getElem?_eq_getElem hi)
  generalize a[i] = u at q hx
  generalize b[i] = v at q
  cases q with
  | same _ _ => exact hx
  | poi _ _ => rw [poi_bare] at hx; exact hx
theorem GE.fresh {o : Option GenState} {c : Code} {y : GenState} (h : GE o (.fresh c) y) : y = .fresh c ∧ ∀ b, o = some b → slp b = false := by
  generalize e : GenState.fresh c = z at h
  cases h with
  | same _ q => exact ⟨rfl, q⟩
  | poi _ hs => cases y with
    | suspended _ _ _ _ _ _ => cases e
    | _ => cases hs
end Mir
set_option maxHeartbeats 1000000
namespace Mir
open PySem
open Sem (wp)
def Sg (M : Model) (A : Around) (Φ : End → Shared → Prop) (c : Code) (t : Sem PySem.Fin) (fs : List Frame) (s : Shared) : Prop :=
  ∀ Γ p, Γ.code = c → Γ.Woken A → ∃ e s', Runs M Γ p t fs s e s' ∧ Φ e s'
section
variable {M : Model} {A : Around} {Φ : End → Shared → Prop} {c : Code} {fs : List Frame} {s : Shared}
theorem Sg.imp {Φ' : End → Shared → Prop} {t : Sem PySem.Fin} (h : Sg M A Φ c t fs s) (k : ∀ e s', Φ e s' → Φ' e s') : Sg M A Φ' c t fs s := fun Γ p hc hw =>
  let ⟨e, s', hr, hp⟩ := h Γ p hc hw
  ⟨e, s', hr, k e s' hp⟩
end
section
variable {M : Model} {A : Around} {Φ : End → Shared → Prop} {c : Code} {fs : List Frame} {s : Shared} {env : Env} {K : Flow → Sem PySem.Fin} {J : Value → Sem PySem.Fin} {gd : Bool → Bool} {lv : List Value → List Value}
def andThen (rest : List Stmt) (env : Env) (K : Flow → Sem PySem.Fin) (J : Value → Sem PySem.Fin) (gd : Bool → Bool) (lv : List Value → List Value) : Flow → Sem PySem.Fin
  | .next => (execs rest env).wrap K J gd lv
  | f => K f
end
section
variable {P : Program} {w : World} {A : Around} {Φ : End → Shared → Prop} {fs : List Frame} {s : Shared} {env : Env}
end
def Sleeps (M : Model) (A : Around) (Φ : End → Shared → Prop) (gs : GenState) (s : Shared) : Prop := match gs with
  | .fresh c => Sg M A Φ c (M.den c) [] s
  | .suspended k _ c _ fs _ => Sg M A Φ c (k (.send .none)) fs s
  | _ => False
def PEnd (F : Shared → Prop) (Er : Value → Shared → Prop) (Y : Value → GenState → Shared → Prop) : End → Shared → Prop
  | .ret (.ok f), s => (f = .ret .none ∨ f = .next) ∧ F s
  | .ret (.error e), s => Er e s
  | .susp v g l k c p fs, s => g = false ∧ fs.any Frame.guarded = false ∧ Y v (.suspended k l c p fs false) s
end Mir
set_option maxHeartbeats 1000000
namespace Mir
open PySem PySem.Spec L2
open PyProof.Rows (envOfC AllBare)
def cut (h : Heap) (L : Nat) : Heap := ⟨h.objs.extract 0 L, h.life⟩
structure GD (G : GG) where
  N : List Str
  V : List Bool
  kd : List (Str × NameKind)
  k : Nat
  qual : Str
  sc : Scope
  L : Addr
  f : Addr
  cdv : Value
  outer : List Env
  it : Addr
  g : Nat
  nd : N.Nodup
  kind : sc.kind = .function
  hkd : sc.names = kd
  hv : visL N V kd = true
  ncel : kd.all (fun p => p.2 != NameKind.cell && p.2 != NameKind.free) = true
  mod : Mod G.K G.mg G.base
  bsz : G.base.objs.size ≤ L
  fl : ∀ b ∈ frs outer, b < L
  itL : L < it
def GD.env {G : GG} (D : GD G) : Env := envOfC D.qual D.sc D.L D.f D.cdv
theorem kd_find {kd : List (Str × NameKind)} {p : NameKind → Bool} (h : kd.all (fun q => p q.2) = true) {x : Str} {k : NameKind} (e : kd.lookup x = some k) : p k = true := by
  have := PySem.mem_of_lookup e
  exact List.all_eq_true.mp h _ this
theorem GD.loc {G : GG} (D : GD G) {x : Str} {k : NameKind} (e : D.sc.names.lookup x = some k) : k ≠ .cell ∧ k ≠ .free := by
  rw [D.hkd] at e
  have := kd_find (p := fun k => k != NameKind.cell && k != NameKind.free) D.ncel e
  rw [Bool.and_eq_true] at this
  exact ⟨by simpa using this.1, by simpa using this.2⟩
theorem cells_none {n : Nat} : ∀ {names : List (Str × NameKind)}, (∀ p ∈ names, p.2 ≠ NameKind.cell) → cellsFrom n names [] = []
  | [], _ => rfl
  | (x, k) :: r, h => by
    have hk : k ≠ .cell := h (x, k) List.mem_cons_self
    have ih := cells_none (n := n) (names := r) fun p hp => h p (List.mem_cons_of_mem _ hp)
    unfold cellsFrom
    cases k <;> first | exact ih | exact absurd rfl hk
theorem GD.cells {G : GG} (D : GD G) : D.env.cells = [] := by
  show cellsFrom (D.L + 1) D.sc.names [] = []
  refine cells_none fun p hp z => ?_
  rw [D.hkd] at hp
  have := List.all_eq_true.mp D.ncel p hp
  rw [z] at this
  simp at this
structure Sgm {G : GG} (D : GD G) where
  A : Around
  s : Shared
  H : Hp
  Kp : List Addr
  S : Hp
  ds : List Mir.D
  fin : Option Exc
  hr : Room D.k (A.deeper D.env)
section
variable {G : GG} {D : GD G}
def Sgm.E (sg : Sgm D) : XK := fun cls dd H' => sg.ds = [] ∧ ∃ e S', sg.fin = some e ∧ Grow sg.S sg.H S' H' ∧ RepX G S' cls dd e
def Sgm.pn (sg : Sgm D) : List (Addr × Obj) := pinsAt (D.it :: sg.Kp) sg.s.heap
def Sgm.s0 (sg : Sgm D) : Shared := { sg.s with heap := cut sg.s.heap D.L }
def Sgm.Eo (sg : Sgm D) : XK := fun cls dd H' => sg.E cls dd H' ∧ ∀ p ∈ sg.pn, H' p.1 = none
def Sgm.out (sg : Sgm D) (u : Value) (s' : Shared) : Prop := L2.CX G.P G.w D.outer sg.H sg.s0 sg.Eo u s' ∧ ∀ p ∈ sg.pn, s'.heap.get? p.1 = some p.2
def Sgm.X (sg : Sgm D) : Cx where
  prog := G.P
  w := G.w
  K := G.K
  mg := G.mg
  base := G.base
  A := sg.A.deeper D.env
  N := D.N
  s_0 := sg.s0
  H_0 := sg.H
  env := D.env
  outer := D.outer
  stack := D.env :: D.outer
  ex := []
  fn := fun _ => true
  calm := true
  pn := sg.pn
  xe := fun u s' => wpAny (model G.P G.w) (sg.A.deeper D.env) (leaving D.env u) (fun _ s'' => sg.out u s'') (fun _ _ => False) s'
theorem Sgm.takes (sg : Sgm D) : Takes sg.X (fun cls d _ H' => sg.E cls d H') := fun u s' ⟨a, B, sI, pins, σ, H, cls, d, e, I, nb, up, sky, na, os, ag, w⟩ =>
  XE.leaveG (W := fun cls d _ H' => sg.Eo cls d H') (E := sg.Eo) rfl rfl rfl (fun _ _ _ _ h => h) ⟨a, B, sI, pins, σ, H, cls, d, e, I, nb, up, sky, na, os, ag, w, fun p hp => (I.pin p (List.mem_append_left _ hp)).2.1⟩
theorem Sgm.owns (sg : Sgm D) : PassesOwn (model sg.X.prog sg.X.w) sg.X.A sg.X.env sg.X.xe :=
  passes_of (X := sg.X) (K := fun u s'' => sg.out u s'') (E₁ := fun _ _ => False) rfl
def Sgm.F (sg : Sgm D) : Fm where
  G := G
  W := fun cls d _ H => sg.E cls d H
  N := D.N
  V := D.V
  L := D.V
  kd := D.kd
  Xs := fun X => X = sg.X
  k := D.k
  cm := true
  top := true
  fr := false
  ow := none
  hX := by rintro X rfl; exact ⟨rfl, rfl, rfl, rfl, rfl, rfl⟩
  nd := D.nd
  hkd := by rintro X rfl; exact D.hkd
  hki := by rintro X rfl; exact D.kind
  vis := by
    rintro X rfl i x hV hn
    have h := visL_at D.hv hV hn
    rw [← D.hkd] at h
    exact h.elim .inl fun h => .inr (.inl h)
  loc := by
    rintro X rfl i x hV hn
    have h := visL_at D.hv hV hn
    rw [← D.hkd] at h
    exact ⟨h, .inl rfl⟩
  hc := by rintro _ X rfl; rfl
  hr := by rintro _ X rfl; exact sg.hr
  hu := by rintro X rfl; exact sg.hr.units
  tk := by rintro X rfl; exact sg.takes
  po := by rintro X rfl; exact sg.owns
  ht := by rintro _ X rfl; exact ⟨rfl, rfl, rfl⟩
structure Res {G : GG} (D : GD G) (S : Hp) (fp : List Addr) (h1 : Heap) (A : Around) (s : Shared) (H : Hp) (Kp : List Addr) : Prop where
  room : Room (D.k + 1) A
  fr : A.frames = some D.outer
  bs : ∀ b o, G.base.get? b = some o → s.heap.get? b = some o ∧ H b = none
  lt : D.L ≤ s.heap.objs.size
  funs : s.heap.FunFrames G.base D.outer
  frf : ∀ b ∈ frs D.outer, H b = none
  hok : HOk G.P G.w H s.heap
  bare : AllBare s.gens
  ex : Ex S H
  keep : ∀ b ∈ fp, ∀ o, h1.get? b = some o → s.heap.get? b = some o ∧ H b = none
  kp : ∀ b ∈ Kp, (∃ o, s.heap.get? b = some o ∧ ∀ v, o.data ≠ .cell v) ∧ H b = none ∧ b ∉ fp ∧ D.L ≤ b
structure Aft (sg : Sgm D) (S' H' : Hp) (s1 : Shared) : Prop where
  os : s1.os = sg.s.os
  bare : AllBare s1.gens
  un : Un (frs D.outer) [] sg.H H' (cut sg.s.heap D.L) s1.heap
  hok : HOk G.P G.w H' s1.heap
  grow : Grow sg.S sg.H S' H'
  kp : ∀ b ∈ D.it :: sg.Kp, ∀ o, sg.s.heap.get? b = some o → s1.heap.get? b = some o ∧ H' b = none
structure FpK (sg : Sgm D) (fp : List Addr) (H' : Hp) (h1 : Heap) : Prop where
  it : D.it ∈ fp
  L : D.L ∈ fp
  ok : ∀ b ∈ fp, (∃ o, h1.get? b = some o ∧ ∀ v, o.data ≠ .cell v) ∧ H' b = none ∧ D.L ≤ b ∧ b ∉ sg.Kp
def Ph (sg : Sgm D) (Y : Value → GenState → Shared → Prop) : End → Shared → Prop :=
  PEnd (fun s1 => sg.ds = [] ∧ sg.fin = none ∧ ∃ S' H', Aft sg S' H' s1) (fun u s1 => sg.out u s1) Y
abbrev Kont := Option Exc → Hp → List Addr → GenState → Heap → Prop
def Yl (sg : Sgm D) (d : Mir.D) (kt : Kont) : Value → GenState → Shared → Prop := fun v gs s1 =>
  ∃ x S' H' fp, RelV x v ∧ Rep G S' x d ∧ Aft sg S' H' s1 ∧ FpK sg fp H' s1.heap ∧ kt sg.fin S' fp gs s1.heap
def Wk {G : GG} (D : GD G) : List Mir.D → Kont
  | [] => fun fin S fp gs h1 => ∀ A s H Kp (r : Res D S fp h1 A s H Kp), Sleeps (model G.P G.w) A (Ph (D := D) ⟨A, s, H, Kp, S, [], fin, r.room.deeper _⟩ fun _ _ _ => False) gs s
  | d :: rest => fun fin S fp gs h1 => ∀ A s H Kp (r : Res D S fp h1 A s H Kp), Sleeps (model G.P G.w) A (Ph (D := D) ⟨A, s, H, Kp, S, d :: rest, fin, r.room.deeper _⟩ (Yl ⟨A, s, H, Kp, S, d :: rest, fin, r.room.deeper _⟩ d (Wk D rest))) gs s
structure Frm {G : GG} (D : GD G) (pins : List (Addr × Obj)) (σ : L2.St) (h : Heap) : Prop where
  loc : ∃ m, h.Ns D.L m ∧ ∀ (i : Nat) (x : Str) (v : V), D.N[i]? = some x → σ[i]? = some (some v) → Vis D.sc x → ∃ u, RelV v u ∧ Look D.env h m x u
  pin : ∀ p ∈ pins, h.get? p.1 = some p.2 ∧ p.1 ≠ D.L ∧ p.1 ∉ frs D.outer ∧ ∀ v, p.2.data ≠ .cell v
  len : σ.length = D.N.length
end
end Mir
set_option maxHeartbeats 1000000
namespace Mir
open PySem PySem.Spec L2
open PyProof.Rows (envOfC AllBare)
inductive GR where
  | stk | don (ds : List D) (fin : Option Exc)
def GR.yld (d : D) : GR → GR
  | .stk => .stk
  | .don ds e => .don (d :: ds) e
def ValG (Γ : Gam) : Prop := ∀ (i : Nat) s, Γ[i]? = some s → s = .unk ∨ ∃ d, s = .val d
theorem Holds.again {G : GG} {H0 H2 S H : Hp} {σ : L2.St} {Γ : Gam} (h : Holds G H0 σ S H Γ) (v : ValG Γ) (e : Ex S H2) : Holds G H2 σ S H2 Γ := by
  refine ⟨e, Same.refl _, h.len, h.val, fun i d q => ?_, fun i j d e p q => ?_, fun i a q => ?_⟩
  all_goals
    rcases v _ _ q with z | ⟨_, z⟩ <;> cases z
section
variable {G : GG} {D : GD G}
structure GPt (sg : Sgm D) (pins : List (Addr × Obj)) (σ : L2.St) (S H : Hp) (s : Shared) (Γ : Gam) : Prop where
  inv : Inv sg.X pins σ H s
  hol : Holds G sg.H σ S H Γ
  gro : Grow sg.S sg.H S H
  pk : ∀ p ∈ pins, p.1 ∉ sg.Kp ∧ D.L ≤ p.1 ∧ p.1 ≠ D.it
  ob : ∃ o, sg.s.heap.get? D.it = some o ∧ ∀ v, o.data ≠ .cell v
  kpo : ∀ b ∈ sg.Kp, ∃ o, sg.s.heap.get? b = some o ∧ ∀ v, o.data ≠ .cell v
  kpl : ∀ b ∈ sg.Kp, D.L ≤ b
  csz : sg.s0.heap.objs.size = D.L
def Sgm.ok (sg : Sgm D) : Prop := D.it ∉ sg.Kp ∧ D.L ∉ sg.Kp
structure Lv {G : GG} (D : GD G) (c : Code) (fs : List Frame) (gd : Bool → Bool) : Prop where
  over : ∀ A : Around, A.over c fs = A.deeper D.env
  split : splitAtGen fs = none
  grd : fs.any Frame.guarded = false
  gd : gd false = false
variable {J J1 J2 : Type}
variable {sts rest : List Stmt} {Γ : Gam} {fj : J → Gam} {pos yp : Pos}
end
end Mir
set_option maxHeartbeats 1000000
namespace Mir
open PySem PySem.Spec L2
open PyProof.Rows (envOfC AllBare)
section
variable {G : GG} {D : GD G} {J J1 : Type} {rest body : List Stmt} {Γ : Gam} {fj : J → Gam} {pos : Pos}
end
end Mir
set_option maxHeartbeats 1000000
namespace Mir
open PySem PySem.Spec L2
open PyProof.Rows (envOfC AllBare)
section
variable {G : GG} {D : GD G}
end
def GMd (G : GG) (k : Nat) (outer : List Env) (s : Shared) (S : Hp) (ds : List D) (fin : Option Exc) (u : Value) (s' : Shared) : Prop :=
  ∃ (D : GD G) (c : Code), D.k + 1 = k ∧ D.outer = outer ∧ D.L = s.heap.objs.size ∧ u = .ref D.it ∧ s'.os = s.os ∧ AllBare s'.gens ∧ (∀ b o, s.heap.get? b = some o → s'.heap.get? b = some o) ∧ s'.heap.IsGen D.it D.g ∧ s'.gens[D.g]? = some (.fresh c) ∧ D.it < s'.heap.objs.size ∧
    (∀ b ∈ [D.L, D.it], ∃ o, s'.heap.get? b = some o ∧ ∀ v, o.data ≠ .cell v) ∧ Wk D ds fin S [D.L, D.it] (.fresh c) s'.heap
structure GFnOk (G : GG) (k : Nat) (f : Addr) (fd : FuncData) (ps : List Str) (m : List D → GR) : Prop where
  len : ∀ ds, m ds ≠ .stk → ds.length = ps.length
  run : ∀ (A : Around) (outer : List Env) (s : Shared) (H S : Hp) (args : Args) (us : List Value) (vs : List V) (das ds : List D) (fin : Option Exc), Room k A → Env0 G.P G.w G.K G.mg G.base A outer s H → BindsTo s fd args (ps.zip us) → Vals vs us → Ex S H → Reps G S vs das → m das = .don ds fin →
    codeAny (model G.P G.w) A (.call (.ref f) args) (fun r s' => match r with | .ok (.ret u) => GMd G k outer s S ds fin u s' | _ => False) s
end Mir
set_option maxHeartbeats 1000000
namespace Mir
open PySem PySem.Spec L2
open PyProof.Rows (envOfC AllBare)
section
variable {X : Cx} {pins : List (Addr × Obj)} {σ : L2.St} {H H' : Hp} {s : Shared} {h' : Heap} {L : Nat} {Kp : List Addr}
def Free (X : Cx) (pins : List (Addr × Obj)) (b : Addr) : Prop := (b ∈ X.ex ∨ X.s_0.heap.objs.size ≤ b) ∧ b ≠ X.env.locals ∧ (∀ x c, X.env.cells.lookup x = some c → c ≠ b) ∧ ∀ p ∈ X.pn ++ pins, p.1 ≠ b
end
structure Slp {G : GG} (D : GD G) (ds : List Mir.D) (fin : Option Exc) (Sg : Hp) (fp : List Addr) (H : Hp) (s : Shared) : Prop where
  isg : s.heap.IsGen D.it D.g
  at_ : ∃ gs, s.gens[D.g]? = some gs ∧ Wk D ds fin Sg fp gs s.heap
  it : D.it ∈ fp
  L : D.L ∈ fp
  ok : ∀ b ∈ fp, (∃ o, s.heap.get? b = some o ∧ ∀ v, o.data ≠ .cell v) ∧ H b = none ∧ D.L ≤ b
section
variable {G : GG} {D : GD G} {X : Cx} {pins : List (Addr × Obj)} {σ : L2.St} {H : Hp} {s : Shared}
structure Wkr (X : Cx) (pins : List (Addr × Obj)) (D : GD G) (Kp : List Addr) (H : Hp) (h : Heap) : Prop where
  prog : X.prog = G.P
  w : X.w = G.w
  K : X.K = G.K
  base : X.base = G.base
  stk : X.stack = D.outer
  room : Room (D.k + 2) X.A
  loc : X.env.locals < D.L ∨ X.env.locals ∈ Kp
  ch : ∀ b, D.L ≤ b → b ∉ Kp → H b = none → Free X pins b
  kp : ∀ b ∈ Kp, (∃ o, h.get? b = some o ∧ ∀ v, o.data ≠ .cell v) ∧ H b = none ∧ D.L ≤ b
  lt : D.L ≤ h.objs.size
end
end Mir
set_option maxHeartbeats 1000000
namespace Mir
open PySem PySem.Spec L2
open PyProof.Rows (envOfC AllBare)
section
variable {G : GG} {D : GD G}
end
structure GMethK (G : GG) (k c : Nat) (name : Str) (m : List D → GR) : Prop where
  ex : ∃ f fd ps, GFnOk G k f fd ps m ∧ Meth G.K (G.ca c) name f ∧ Cls G.K (G.ca c) ∧ Binds G.K fd ps []
structure GKn (G : GG) (k : Nat) (x : Str) (m : List D → GR) : Prop where
  ex : ∃ f fd ps, GFnOk G k f fd ps m ∧ G.mg x = some (.ref f) ∧ PySem.W.keepIn G.K (.ref f) = true ∧ Binds G.K fd ps []
section
variable {F : Fm} {Γ : Gam} {k : Nat} {o e : Expr} {es : List Expr} {mo : M D} {ml : M (List D)} {pos apos p : Pos}
end
end Mir
namespace Mir
open PySem PySem.Spec L2
section
variable {G : GG} {S T : Hp}
def OffL (S T : Hp) : Prop := ∀ p o, S p = some o → (∀ us, o ≠ HO.lst us) → T p = some o
mutual
theorem rep_offL (k : OffL S T) : ∀ {d : D} {v : V}, firmD d = true → Rep G S v d → Rep G T v d
  | .non, _, _, .non => .non
  | .bl b, _, _, .bl _ => .bl b
  | .int b, _, _, .int _ => .int b
  | .str b, _, _, .str _ => .str b
  | .adr a, _, _, .adr _ => .adr a
  | .ktp _, _, _, .kt k r => .kt k r
  | .tup xs, _, h, .tup e r => .tup (k _ _ e fun us z => by cases z) (reps_offL k (by simpa [firmD] using h) r)
  | .lst _, _, h, _ => by simp [firmD] at h
  | .dct _, _, h, _ => by simp [firmD] at h
  | .dks _, _, h, _ => by simp [firmD] at h
  | .obj _ _, _, h, _ => by simp [firmD] at h
  | .slf _ _ _, _, h, _ => by simp [firmD] at h
  | .scr _, _, h, _ => by simp [firmD] at h
theorem reps_offL (k : OffL S T) : ∀ {ds : List D} {vs : List V}, firmD.firmDs ds = true → Reps G S vs ds → Reps G T vs ds
  | [], _, _, .nil => .nil
  | d :: ds, _, h, .cons r rs => by
    have h : firmD d = true ∧ firmD.firmDs ds = true := by simpa [firmD.firmDs] using h
    exact .cons (rep_offL k h.1 r) (reps_offL k h.2 rs)
end
theorem reps_ixs : ∀ {ds : List D} {vs : List V}, (∀ d ∈ ds, isIx d = true) → Reps G S vs ds → Reps G T vs ds
  | [], _, _, .nil => .nil
  | d :: ds, _, h, .cons r rs => by
    obtain ⟨i, e1, e2⟩ := rep_int r (h d List.mem_cons_self)
    subst e1 e2
    exact .cons (.int i) (reps_ixs (fun x hx => h x (List.mem_cons_of_mem _ hx)) rs)
theorem rd_tup {p : Addr} {ks : List (List Key × V)} {vs : List V} (e : Ex S T) (h : Rd S p (.dT ks)) (k : T p = some (.tup vs)) : False := by
  rcases h with z | ⟨o, z⟩
  · have := e _ _ z
    rw [k] at this
    cases this
  · have := e _ _ z
    rw [k] at this
    cases this
end
section
variable {F : Fm} {Γ : Gam} {X S : Type} {fx : X → Gam} {fs : S → Gam} {x0 : X} {e : Expr} {es : List Expr} {pos : Pos} {rest : List Stmt}
end
end Mir
namespace Mir
open PySem PySem.Spec L2
section
variable {G : GG} {H0 S H : Hp} {σ : L2.St} {p : Addr} {vs : List V} {xs : List D} {Δ : Gam} {i : Nat}
end
section
variable {F : Fm} {Γ : Gam} {X S J : Type} {fx : X → Gam} {fs : S → Gam} {x0 : X} {pos : Pos} {rest body : List Stmt}
end
end Mir
namespace Mir
open PySem PySem.Spec L2
section
variable {F : Fm} {Γ : Gam} {X S J : Type} {fx : X → Gam} {fs : S → Gam} {c : Expr} {pos : Pos} {rest body : List Stmt}
end
end Mir
set_option maxHeartbeats 1000000
namespace Mir
open PySem PySem.Spec L2
open PyProof.Rows (envOfC AllBare)
def Ctl.nox {X S : Type} : Ctl X S → Ctl X S
  | .exn _ _ => .stk
  | c => c
section
variable {F : Fm} {Γ : Gam} {X0 S0 J : Type} {fx : X0 → Gam} {fs : S0 → Gam} {rest body : List Stmt} {pos : Pos}
end
end Mir
set_option maxHeartbeats 1000000
namespace Mir
open PySem PySem.Spec L2
open PyProof.Rows (envOfC AllBare)
section
variable {F : Fm} {Γ : Gam} {scope : Scope} {own : List (Str × Nat)} {V L : List Bool} {kd : List (Str × NameKind)} {elt tg iter : Expr} {ifs : List Expr} {pos : Pos} {f : D → M (List D)} {tf : D → Gam → Option Gam}
end
end Mir
set_option maxHeartbeats 1000000
namespace Mir
open PySem PySem.Spec L2
open PyProof.Rows (envOfC AllBare)
section
variable {F : Fm} {Γ : Gam} {scope : Scope} {own : List (Str × Nat)} {V L : List Bool} {kd : List (Str × NameKind)} {elt tg iter : Expr} {ifs : List Expr} {pos : Pos} {f : D → M (List D)} {tf : D → Gam → Option Gam}
end
end Mir
set_option maxHeartbeats 1000000
namespace Mir
open PySem PySem.Spec L2
open PyProof.Rows (envOfC AllBare)
section
variable {G : GG} {D : GD G}
end
end Mir
set_option maxHeartbeats 1000000
namespace Mir
open PySem PySem.Spec L2
open PyProof.Rows (envOfC AllBare)
section
variable {G : GG} {D : GD G} {X : Cx} {pins : List (Addr × Obj)} {σ : L2.St} {H : Hp} {s : Shared}
end
section
variable {X : Cx} {pins : List (Addr × Obj)} {σ : L2.St} {H H' : Hp} {s : Shared} {L : Nat}
end
section
variable {F : Fm} {Γ : Gam} {scope : Scope} {own : List (Str × Nat)} {V L : List Bool} {kd : List (Str × NameKind)} {elt tg iter : Expr} {ifs : List Expr} {pos : Pos} {f : D → M (List D)} {tf : D → Gam → Option Gam}
end
end Mir
namespace Mir
open PySem PySem.Spec L2
open PyProof.Rows (envOfC)
def txsOk : List Value → List Str → Bool
  | [], [] => true
  | .str y _ :: us, x :: xs => decide (y = x) && txsOk us xs
  | _, _ => false
def ktOk (K : PySem.W.Frag) (a : Addr) (xs : List Str) : Bool := match K.lookup a with
  | some ⟨.type t, _, .seq its _, _⟩ => t == "tuple" && decide (its.size ≤ 64) && txsOk its.toList xs
  | _ => false
structure KdT (G : GG) (x : Str) (xs : List Str) : Prop where
  ex : ∃ a, G.mg x = some (.ref a) ∧ ktOk G.K a xs = true
  db : (x == ("__debug__" : Str)) = false
section
variable {F : Fm} {Γ : Gam} {a b c e : Expr} {es : List Expr} {ma mb mc m me : M D} {pos : Pos}
end
end Mir
namespace Mir
open PySem PySem.Spec L2
open PyProof.Rows (envOfC)
section
open PySem.W
end
structure SfK (G : GG) (c : Nat) : Prop where
  f : PySem.W.selfFirst G.K (G.ca c) = true
section
variable {F : Fm} {Γ : Gam} {a b c e o : Expr} {es : List Expr} {ma mb mc m mo me : M D} {ml : M (List D)} {pos apos : Pos}
end
end Mir
namespace Mir
open PySem PySem.Spec L2
open PyProof.Rows (envOfC)
def KnR (G : GG) (k : Nat) (x : Str) (m : List D → M D) : Prop := ∃ f j, j ≤ k ∧ FnR G.P G.w G.K G.mg G.base (L2.CX G.P G.w) j f (spM G m) ∧ G.mg x = some (.ref f) ∧ PySem.W.keepIn G.K (.ref f) = true
theorem KnR.mono {G : GG} {j k : Nat} {x : Str} {m : List D → M D} (h : KnR G j x m) (l : j ≤ k) : KnR G k x m := by
  obtain ⟨f, i, hi, r⟩ := h
  exact ⟨f, i, Nat.le_trans hi l, r⟩
section
variable {X : Cx} {CX : CXT} {pins : List (Addr × Obj)} {σ : L2.St} {H : Hp} {s : Shared} {n : Nat} {f : Addr} {sp : Sp} {E : XK}
end
section
variable {F : Fm} {Γ : Gam} {a b c e o : Expr} {es : List Expr} {ma mb mc m mo me : M D} {ml : M (List D)} {pos apos : Pos}
end
end Mir
namespace Mir
open PySem PySem.Spec L2
open PyProof.Rows (envOfC)
inductive Pat where
  | lit (y : Str) | cap (i : Nat) | wild
inductive PatOk (N : List Str) (L : List Bool) : List Pattern → List Pat → Prop
  | nil : PatOk N L [] []
  | lit {y : Str} {j p p2 ps qs} : PatOk N L ps qs → PatOk N L (.MatchValue (.Constant (.str y) j p) p2 :: ps) (.lit y :: qs)
  | cap {x : Str} {i p ps qs} : N[i]? = some x → L[i]? = some true → PatOk N L ps qs → PatOk N L (.MatchAs none (some x) p :: ps) (.cap i :: qs)
  | wild {p ps qs} : PatOk N L ps qs → PatOk N L (.MatchAs none none p :: ps) (.wild :: qs)
inductive BsOk (N : List Str) (L : List Bool) : List (Str × Value) → List (Nat × V) → Prop
  | nil : BsOk N L [] []
  | cons {x : Str} {u : Value} {i : Nat} {v : V} {r q} : N[i]? = some x → L[i]? = some true → RelV v u → BsOk N L r q → BsOk N L ((x, u) :: r) ((i, v) :: q)
theorem PatOk.len {N : List Str} {L : List Bool} {ps : List Pattern} {qs : List Pat} (h : PatOk N L ps qs) : ps.length = qs.length := by
  induction h with
  | nil => rfl
  | lit _ ih => simp [ih]
  | cap _ _ _ ih => simp [ih]
  | wild _ ih => simp [ih]
section
variable {F : Fm} {Γ : Gam} {X S J : Type} {fx : X → Gam} {fs : S → Gam} {x0 : X} {e : Expr} {m : M D} {pos : Pos} {rest body : List Stmt} {cs cases : List MatchCase} {xs : List D}
end
end Mir
namespace Mir
open PySem PySem.Spec L2
open PyProof.Rows (envOfC)
section
variable {F : Fm} {Γ : Gam} {X S : Type} {fx : X → Gam} {fs : S → Gam} {x0 : X} {a b c e o : Expr} {ma mb mc m mo me : M D} {pos apos : Pos} {rest : List Stmt}
end
end Mir
namespace Mir
open PySem PySem.Spec L2
open PyProof.Rows (envOfC)
section
variable {F : Fm} {Γ : Gam} {b : Expr} {mb : M D} {pos p1 : Pos}
end
end Mir
namespace Mir
open PySem PySem.Spec L2
open PyProof.Rows (envOfC)
section
variable {G : GG} {st : Stmt} {N ps : List Str} {Sc : FnScope N ps (defScope st)} {V : List Bool} {kd : List (Str × NameKind)} {hv : visL N V kd = true} {hkd : (defScope st).names = kd} {qual : Str} {f : Addr} {cdv : Value} {A : Around} {outer : List Env} {s : Shared} {H : Hp} {E : XK} {a : Addr} {oe : Obj} {hu : A.units + 3 + 64 < cLine}
end
def RunA (G : GG) (f : Addr) (fd : FuncData) (p1 : Str) (m : Exc → M D) : Prop :=
  ∀ (A : Around) (outer : List Env) (s : Shared) (H : Hp) (args : Args) (Q : VK) (E : XK) (a : Addr) (oe : Obj) (dd : Option Addr) (e : Exc),
    A.depth < recursionLimit → A.units + 3 + 64 < cLine → L2H.PinOk outer H s (a, oe) → Zc (G.xc e.c) dd oe → (∃ vs, oe.data = .fields vs) → ((e.fs = [] ∧ dd = none) ∨ (e.fs ≠ [] ∧ ∃ d, dd = some d)) →
    Env0 G.P G.w G.K G.mg G.base A outer s H → BindsTo s fd args [(p1, .ref a)] →
    (∃ S, Ex S H ∧ ExAt G S (refK a dd e) ∧ Po G (fun _ _ _ => False) S H (fun d S' H' => ∀ v, Rep G S' v d → Q v H') (m e)) →
    codeAny (model G.P G.w) A (.call (.ref f) args) (CR (L2.CX G.P G.w) outer G.P G.w H s Q E) s
structure KnA (G : GG) (x : Str) (m : Exc → M D) : Prop where
  ex : ∃ f fd p1, G.mg x = some (.ref f) ∧ PySem.W.keepIn G.K (.ref f) = true ∧ Binds G.K fd [p1] [] ∧ RunA G f fd p1 m
end Mir
namespace Mir
open PySem PySem.Spec L2
open PyProof.Rows (envOfC)
end Mir
namespace Mir
open PySem PySem.Spec L2
end Mir
set_option maxHeartbeats 1000000
namespace Mir
open PySem PySem.Spec L2
open PyProof.Rows (envOfC)
section
variable {prog : Program} {w : World} {A : Around} {s : Shared} {E : Value → Shared → Prop}
end
def TgG (F : Fm) (tg : Expr) (f : D → Gam → Option Gam) : Prop := ∃ g, (∀ X, F.Xs X → PG X tg g) ∧ ∀ H0 σ S H v d Γ Γ' (Q : L2.St → Hp → Prop), Holds F.G H0 σ S H Γ → Rep F.G S v d → f d Γ = some Γ' → (∀ σ' S' H', Grow S H S' H' → Holds F.G H0 σ' S' H' Γ' → Q σ' H') → g v σ H Q
def TgsG (F : Fm) (tgs : List Expr) (f : List D → Gam → Option Gam) : Prop := ∃ g, (∀ X, F.Xs X → PGs X tgs g) ∧ ∀ H0 σ S H vs ds Γ Γ' (Q : L2.St → Hp → Prop), Holds F.G H0 σ S H Γ → Reps F.G S vs ds → f ds Γ = some Γ' → (∀ σ' S' H', Grow S H S' H' → Holds F.G H0 σ' S' H' Γ' → Q σ' H') → g vs σ H Q
section
variable {F : Fm} {Γ : Gam} {e tg iter : Expr} {es : List Expr} {m : M D} {pos : Pos}
theorem tgg {f : D → Gam → Option Gam} (h : TgM F tg f) : TgG F tg f := by
  obtain ⟨g, p, q⟩ := h
  exact ⟨g, p, fun H0 σ S H v d Γ Γ' Q hh r e k => q H0 σ S H v d Γ Γ' Q hh r e fun σ' h' _ _ => k σ' S H (Grow.refl hh.ex) h'⟩
theorem tggs_cons {e : Expr} {es : List Expr} {f : D → Gam → Option Gam} {g : List D → Gam → Option Gam} (h : TgG F e f) (k : TgsG F es g) (hs : ∀ X, F.Xs X → (assignEach (e :: es) X.env).map (·.2) = assign e X.env :: (assignEach es X.env).map (·.2) := by intros; rfl) : TgsG F (e :: es) (tgCons f g) := by
  obtain ⟨t, p, ft⟩ := h
  obtain ⟨u, q, fu⟩ := k
  refine ⟨gCons t u, fun X hX => pgs_cons (p X hX) (q X hX) (hs X hX), fun H0 σ S H vs ds Γ Γ' Q hh r e qq => ?_⟩
  cases r with
  | nil => cases e
  | @cons v vs d ds rv rs =>
    have e : (f d Γ).bind (g ds) = some Γ' := e
    cases z : f d Γ with
    | none => rw [z] at e; cases e
    | some Γ1 =>
      rw [z] at e
      refine ⟨v, vs, rfl, ft H0 σ S H v d Γ Γ1 _ hh rv z fun σ1 S1 H1 g1 h1 => ?_⟩
      exact fu H0 σ1 S1 H1 vs ds Γ1 Γ' Q h1 (rs.mono g1.s) e fun σ2 S2 H2 g2 h2 => qq σ2 S2 H2 (g1.trans g2) h2
theorem tggs_star {e : Expr} {p : Pos} {f : D → Gam → Option Gam} (h : TgG F e f) (hs : ∀ X, F.Xs X → (assignEach [.Starred e p] X.env).map (·.2) = (assignEach [e] X.env).map (·.2) := by intros; rfl) (hs2 : ∀ X, F.Xs X → (assignEach [e] X.env).map (·.2) = assign e X.env :: (assignEach [] X.env).map (·.2) := by intros; rfl) : TgsG F [.Starred e p] (tgCons f tgNil) := by
  obtain ⟨t, pt, ft⟩ := h
  refine ⟨gCons t gNil, fun X hX => ⟨fun pins s σ H vs us Q I r q => by rw [hs X hX]; exact (pgs_cons (pt X hX) pgs_nil (hs2 X hX)).run pins s σ H vs us Q I r q⟩, fun H0 σ S H vs ds Γ Γ' Q hh r e qq => ?_⟩
  cases r with
  | nil => cases e
  | @cons v vs d ds rv rs =>
    have e : (f d Γ).bind (tgNil ds) = some Γ' := e
    cases z : f d Γ with
    | none => rw [z] at e; cases e
    | some Γ1 =>
      rw [z] at e
      cases rs with
      | nil =>
        cases e
        exact ⟨v, [], rfl, ft H0 σ S H v d Γ _ _ hh rv z fun σ1 S1 H1 g1 h1 => ⟨rfl, qq σ1 S1 H1 g1 h1⟩⟩
      | cons _ _ => cases e
theorem bm_asgG {X S : Type} {fx : X → Gam} {fs : S → Gam} {x0 : X} {tf : D → Gam → Option Gam} {rest : List Stmt} {k : D → Ctl X S} (he : EM F e Γ m) (ht : TgG F tg tf) (w : Weak Γ (fx x0))
    (hr : ∀ d, (∃ Γ', tf d Γ = some Γ' ∧ BM F rest Γ' ((k d).out fx fs)) ∨ k d = .stk) (hs : ∀ X, F.Xs X → swapsWithSole [tg] e pos.line X.env = pure false := by intros; rfl) (hw : ∀ X, F.Xs X → swappedStores [tg] e X.env = pure none := by intros; rfl)
    (h1 : ∀ X, F.Xs X → (assignEach [tg] X.env).map (·.2) = [assign tg X.env] := by intros; rfl) : BM F (.Assign [tg] e pos :: rest) Γ ((m.bindC x0 k).out fx fs) := by
  obtain ⟨t, p, q⟩ := he
  obtain ⟨g, pg, eg⟩ := ht
  refine bm_cons (fun X hX => ps_asg (p X hX) (pg X hX) (hs X hX) (hw X hX) (h1 X hX)) fun S0 H0 Dn σ S H gr hh po => ?_
  refine q H0 σ S H _ hh ((opo_bind gr hh w po).imp fun d S1 H1 _ ⟨g1, h1, p1⟩ v r => ?_)
  rcases hr d with ⟨Γ', e', hb⟩ | z
  · exact eg H0 σ S1 H1 v d Γ Γ' _ h1 r e' fun σ' S2 H2 g2 h2 => hb.c S0 H0 Dn σ' S2 H2 (g1.trans g2) h2 p1
  · rw [z] at p1
    exact False.elim p1
end
end Mir
namespace Mir
open PySem PySem.Spec L2
open PyProof.Rows (envOfC)
section
variable {prog : Program} {w : World} {A : Around} {s : Shared} {E : Value → Shared → Prop} {env : Env}
end
inductive PatS (N : List Str) (L : List Bool) : List Pattern → List Pat → Prop
  | last {x : Str} {i p} : N[i]? = some x → L[i]? = some true → PatS N L [.MatchStar (some x) p] [.cap i]
  | lit {y : Str} {j p p2 ps qs} : PatS N L ps qs → PatS N L (.MatchValue (.Constant (.str y) j p) p2 :: ps) (.lit y :: qs)
  | cap {x : Str} {i p ps qs} : N[i]? = some x → L[i]? = some true → PatS N L ps qs → PatS N L (.MatchAs none (some x) p :: ps) (.cap i :: qs)
section
variable {F : Fm} {Γ : Gam} {X S J : Type} {fx : X → Gam} {fs : S → Gam} {x0 : X} {e : Expr} {m : M D} {pos : Pos} {rest body : List Stmt} {cs cases : List MatchCase} {xs : List D}
end
end Mir
namespace Mir
open PySem PySem.Spec L2
section
variable {F : Fm} {Γ : Gam} {X S : Type} {fx : X → Gam} {fs : S → Gam} {x0 : X} {rest body : List Stmt} {cs : List MatchCase} {xs : List D}
end
end Mir
namespace Mir
open PySem PySem.Spec L2
section
variable {F : Fm} {Γ : Gam} {X S : Type} {fx : X → Gam} {fs : S → Gam} {x0 : X} {e : Expr} {m : M D} {rest : List Stmt}
end
end Mir
namespace Mir
open PySem PySem.Spec L2
open PyProof.Rows Srt
section
variable {prog : Program} {w : World} {A : Around} {s : Shared} {E : Value → Shared → Prop}
end
section
variable {F : Fm} {Γ : Gam} {e : Expr} {es : List Expr} {pos : Pos}
end
end Mir
namespace Mir
open PySem PySem.Spec L2
section
variable {F : Fm} {Γ : Gam} {e : Expr} {es : List Expr} {pos : Pos}
end
end Mir
namespace Mir
open PySem PySem.Spec L2
mutual
def noOb (c : Nat) : D → Bool
  | .tup xs => noObs c xs
  | .lst xs => noObs c xs
  | .dct kvs => noObT c kvs
  | .dks kvs => noObK c kvs
  | .obj k fs => !(k == c) && noObF c fs
  | .slf _ _ _ => false
  | _ => true
def noObs (c : Nat) : List D → Bool
  | [] => true
  | d :: ds => noOb c d && noObs c ds
def noObT (c : Nat) : List (List Key × D) → Bool
  | [] => true
  | (_, d) :: ds => noOb c d && noObT c ds
def noObK (c : Nat) : List (Key × D) → Bool
  | [] => true
  | (_, d) :: ds => noOb c d && noObK c ds
def noObF (c : Nat) : List (Str × D) → Bool
  | [] => true
  | (_, d) :: ds => noOb c d && noObF c ds
end
theorem noT_map {c : Nat} : ∀ kvs : List (List Key × D), noObT c kvs = noObs c (kvs.map (·.2))
  | [] => rfl
  | (_, d) :: ds => by unfold noObT; rw [noT_map ds]; rfl
theorem noK_map {c : Nat} : ∀ kvs : List (Key × D), noObK c kvs = noObs c (kvs.map (·.2))
  | [] => rfl
  | (_, d) :: ds => by unfold noObK; rw [noK_map ds]; rfl
theorem noF_map {c : Nat} : ∀ kvs : List (Str × D), noObF c kvs = noObs c (kvs.map (·.2))
  | [] => rfl
  | (_, d) :: ds => by unfold noObF; rw [noF_map ds]; rfl
def minus2 (S : Hp) (p q : Addr) : Hp := fun a => if a = p ∨ a = q then none else S a
theorem minus2_ne {S : Hp} {p q a : Addr} (h1 : a ≠ p) (h2 : a ≠ q) : minus2 S p q a = S a := if_neg (by rintro (h | h) <;> contradiction)
section
variable {G : GG} {S : Hp} {p dx : Addr} {c : Nat} {ws : List (Str × V)}
theorem off2 (hp : S p = some (.ins (G.ca c) dx ws)) (hx : S dx = some (HO.own p)) {a : Addr} {u : HO} (h : S a = some u) (n1 : ∀ C d vs, u ≠ .ins C d vs) (n2 : ∀ b, u ≠ .own b) : minus2 S p dx a = some u := by
  rw [minus2_ne (fun e => by subst e; rw [hp] at h; exact n1 _ _ _ (Option.some.inj h).symm) (fun e => by subst e; rw [hx] at h; exact n2 _ (Option.some.inj h).symm)]
  exact h
theorem off2_rd (hp : S p = some (.ins (G.ca c) dx ws)) (hx : S dx = some (HO.own p)) {a : Addr} {u : HO} (h : Rd S a u) (n1 : ∀ C d vs, u ≠ .ins C d vs) (n2 : ∀ b, u ≠ .own b) : Rd (minus2 S p dx) a u := by
  rcases h with h | ⟨o, h⟩
  · exact .inl (off2 hp hx h n1 n2)
  · exact .inr ⟨o, off2 hp hx h (fun _ _ _ z => by cases z) (fun _ z => by cases z)⟩
mutual
theorem rep_noO (hca : ∀ k, G.ca k = G.ca c → k = c) (hp : S p = some (.ins (G.ca c) dx ws)) (hx : S dx = some (HO.own p)) : ∀ {v : V} {d : D}, noOb c d = true → Rep G S v d → Rep G (minus2 S p dx) v d
  | _, _, _, .non => .non
  | _, _, _, .bl b => .bl b
  | _, _, _, .int i => .int i
  | _, _, _, .str x => .str x
  | _, _, _, .adr a => .adr a
  | _, _, _, .kt k r => .kt k r
  | _, _, n, .tup h r => .tup (off2 hp hx h (fun _ _ _ z => by cases z) (fun _ z => by cases z)) (reps_noO hca hp hx (by simpa [noOb] using n) r)
  | _, _, n, .lst h r => .lst (off2 hp hx h (fun _ _ _ z => by cases z) (fun _ z => by cases z)) (reps_noO hca hp hx (by simpa [noOb] using n) r)
  | _, _, _, .scr h => .scr (by
      rcases h with h | h
      · exact .inl (off2_rd hp hx h (fun _ _ _ z => by cases z) (fun _ z => by cases z))
      · exact .inr h)
  | _, _, n, .dct h e r => .dct (off2_rd hp hx h (fun _ _ _ z => by cases z) (fun _ z => by cases z)) e (reps_noO hca hp hx (by rw [← noT_map]; simpa [noOb] using n) r)
  | _, _, n, .dks h e r => .dks (off2_rd hp hx h (fun _ _ _ z => by cases z) (fun _ z => by cases z)) e (reps_noO hca hp hx (by rw [← noK_map]; simpa [noOb] using n) r)
  | _, .obj k fs, n, .obj (a := a) (dx := dy) h1 h2 e r => by
    have n' : (!(k == c)) = true ∧ noObF c fs = true := by
      have : (!(k == c) && noObF c fs) = true := by simpa [noOb] using n
      exact Bool.and_eq_true _ _ ▸ this
    have kc : k ≠ c := by simpa using n'.1
    have ap : a ≠ p := fun z => by
      subst z
      rw [hp] at h1
      exact kc (hca k ((HO.ins.inj (Option.some.inj h1)).1.symm))
    have ax : a ≠ dx := fun z => by subst z; rw [hx] at h1; cases h1
    have yp : dy ≠ p := fun z => by subst z; rw [hp] at h2; cases h2
    have yx : dy ≠ dx := fun z => by
      subst z
      rw [hx] at h2
      exact ap (HO.own.inj (Option.some.inj h2)).symm
    exact .obj (by rw [minus2_ne ap ax]; exact h1) (by rw [minus2_ne yp yx]; exact h2) e (reps_noO hca hp hx (by rw [← noF_map]; exact n'.2) r)
  | _, .slf _ _ _, n, .slf _ _ _ _ => by simp [noOb] at n
theorem reps_noO (hca : ∀ k, G.ca k = G.ca c → k = c) (hp : S p = some (.ins (G.ca c) dx ws)) (hx : S dx = some (HO.own p)) : ∀ {vs : List V} {ds : List D}, noObs c ds = true → Reps G S vs ds → Reps G (minus2 S p dx) vs ds
  | _, _, _, .nil => .nil
  | _, _ :: _, n, .cons h r => by
    have n := Bool.and_eq_true _ _ ▸ (show (noOb c _ && noObs c _) = true by simpa [noObs] using n)
    exact .cons (rep_noO hca hp hx n.1 h) (reps_noO hca hp hx n.2 r)
end
end
def plus2 (S : Hp) (p dx : Addr) (u : HO) : Hp := upd (upd S p u) dx (HO.own p)
structure Shr (G : GG) (H0 : Hp) (σ : L2.St) (S H : Hp) (Γ : Gam) (i c : Nat) (fs : List (Str × D)) (p dx : Addr) (ws : List (Str × V)) : Prop where
  at_ : σ[i]? = some (some (.ref p))
  hp : H p = some (.ins (G.ca c) dx ws)
  hx : H dx = some (HO.own p)
  sp : S p = none
  sx : S dx = none
  ne : dx ≠ p
  hold : Holds G H0 σ (plus2 S p dx (.ins (G.ca c) dx ws)) H (Γ.set i (Sl.val (.obj c fs)))
section
variable {F : Fm} {Γ : Gam} {e : Expr} {m : M D} {mt : M Bool} {c : Nat} {fs : List (Str × D)}
end
end Mir
namespace Mir
open PySem PySem.Spec L2
section
variable {F : Fm} {Γ : Gam} {e : Expr} {es : List Expr} {pos : Pos}
end
end Mir
namespace Mir
open PySem PySem.Spec L2
open PyProof.Rows (envOfC)
theorem wp_execs_app {M : Model} {env : Env} {C : PySem.Ctx} {b : List Stmt} {R : Flow → Pos → Shared → Prop} {Ex : Value → Pos → Shared → Prop} : ∀ (a : List Stmt) (p : Pos) (s : Shared), Sem.wp M C (execs a env) (fun f p' s' => match f with | .next => Sem.wp M C (execs b env) R Ex p' s' | f => R f p' s') Ex p s → Sem.wp M C (execs (a ++ b) env) R Ex p s
  | [], p, s, h => h
  | st :: a, p, s, h => by
    rw [List.cons_append, execs_cons, Sem.wp_bind']
    rw [execs_cons, Sem.wp_bind'] at h
    refine Sem.wp_mono M C _ (fun f p' s' h' => ?_) (fun _ _ _ h' => h') _ _ h
    cases f with
    | next => exact wp_execs_app a p' s' h'
    | brk => exact h'
    | cont => exact h'
    | ret v => exact h'
theorem wpAny_execs_app {M : Model} {A : Around} {E : Value → Shared → Prop} {s : Shared} {env : Env} {a b : List Stmt} {Q : Flow → Shared → Prop} (h : wpAny M A (execs a env) (fun f s' => match f with | .next => wpAny M A (execs b env) Q E s' | f => Q f s') E s) : wpAny M A (execs (a ++ b) env) Q E s := fun C p hC => by
  refine wp_execs_app a p s (Sem.wp_mono M C _ (fun f p' s' h' => ?_) (fun _ _ _ h' => h') _ _ (h C p hC))
  cases f with
  | next => exact h' C p' hC
  | brk => exact h'
  | cont => exact h'
  | ret v => exact h'
theorem pss_app {X : Cx} {a b : List Stmt} {ta tb : TS} (ha : PSs X a ta) (hb : PSs X b tb) : PSs X (a ++ b) (fun D σ H => ta { D with nx := tb D } σ H) := by
  refine ⟨fun pins s σ H D I h => wpAny_execs_app (wpAny_mono (ha.run pins s σ H _ I h) (fun f s' hs => ?_) fun _ _ z => z)⟩
  cases f with
  | next =>
    obtain ⟨σ', H', I', q⟩ := hs
    exact hb.run pins s' σ' H' D I' q
  | brk => exact hs
  | cont => exact hs
  | ret u => exact hs
end Mir
namespace Mir
open PySem PySem.Spec L2
open PyProof.Rows (envOfC)
section
variable {F : Fm} {Γ : Gam} {X S : Type} {fx : X → Gam} {fs : S → Gam} {x0 : X} {e : Expr} {m : M D} {rest : List Stmt}
end
end Mir
namespace Mir
open PySem PySem.Spec L2
open PyProof.Rows (envOfC)
def AnsO (G : GG) (S : Hp) (p : Addr) (v : V) : Option D → Prop
  | some d => Rep G S v d
  | none => v = .ref p
def PoO (G : GG) (E : XK) (S H : Hp) (p : Addr) (c : Nat) (fs : FsD) (Q : V → Hp → Prop) : M (FsD × Option D) → Prop
  | .stk => False
  | .exn e => ∀ cls dd S' H', Grow S H S' H' → S' p = none → OwnAt G H S' H' p (.obj c fs) → RepX G S' cls dd e → E cls dd H'
  | .ok r => ∀ S' H' v, Grow S H S' H' → S' p = none → OwnAt G H S' H' p (.obj c r.1) → AnsO G S' p v r.2 → Q v H'
def spO (G : GG) (c : Nat) (m : FsD → List D → M (FsD × Option D)) : Sp := fun vs H Q E => ∃ (S : Hp) (p dx : Addr) (ws : List (Str × V)) (fs : FsD) (us : List V) (ds : List D), vs = V.ref p :: us ∧ Ex S H ∧ S p = none ∧ S dx = none ∧ H p = some (.ins (G.ca c) dx ws) ∧ H dx = some (.own p) ∧ ws.map (·.1) = fs.map (·.1) ∧ Reps G S (ws.map (·.2)) (fs.map (·.2)) ∧ Reps G S us ds ∧ PoO G E S (minus2 H p dx) p c fs Q (m fs ds)
end Mir
namespace Mir
open PySem PySem.Spec L2
open PyProof.Rows (envOfC)
def WO (c : Nat) (w : FsD → D) : Prop := w = D.obj c ∨ ∃ a, w = D.slf a c
theorem WO.at {G : GG} {H0 S H : Hp} {p : Addr} {c : Nat} {w : FsD → D} {fs : FsD} (hw : WO c w) (o : OwnAt G H0 S H p (w fs)) : OwnAt G H0 S H p (.obj c fs) := by
  rcases hw with rfl | ⟨a, rfl⟩
  · exact o
  · exact o.2
def EvCh (F : Fm) (te : TE) (Γ : Gam) (i : Nat) (w : FsD → D) (m : M (FsD × D)) : Prop := ∀ S0 H0 σ S H Q, Grow S0 H0 S H → Holds F.G H0 σ S H Γ → (match m with
  | .stk => False
  | .exn e => ∀ cls dd S' H', Grow S0 H0 S' H' → Holds F.G H0 σ S' H' Γ → RepX F.G S' cls dd e → F.W cls dd σ H'
  | .ok r => ∀ S' H' v, Grow S0 H0 S' H' → Holds F.G H0 σ S' H' (Γ.set i (Sl.own (w r.1))) → Rep F.G S' v r.2 → Q v H') → te σ H Q
end Mir
namespace Mir
open PySem PySem.Spec L2
open PyProof.Rows (envOfC)
structure MetO (G : GG) (k c : Nat) (name : Str) (m : FsD → List D → M (FsD × Option D)) : Prop where
  ex : ∃ f j, j ≤ k ∧ FnR G.P G.w G.K G.mg G.base (L2.CX G.P G.w) j f (spO G c m) ∧ Meth G.K (G.ca c) name f ∧ Cls G.K (G.ca c)
theorem MetO.mono {G : GG} {j k c : Nat} {x : Str} {m : FsD → List D → M (FsD × Option D)} (h : MetO G j c x m) (l : j ≤ k) : MetO G k c x m := by
  obtain ⟨f, i, hi, r⟩ := h.ex
  exact ⟨f, i, Nat.le_trans hi l, r⟩
section
variable {F : Fm} {Γ : Gam} {e : Expr} {es : List Expr} {pos apos p3 : Pos} {ml : M (List D)} {i c : Nat} {w : FsD → D} {fs : FsD} {m : FsD → List D → M (FsD × Option D)} {name n : Str}
end
end Mir
namespace Mir
open PySem PySem.Spec L2
section
variable {F : Fm} {Γ : Gam} {S0 H0 : Hp} {Dn : Ends} {X S : Type} {fx : X → Gam} {fs : S → Gam} {x0 : X} {σ : L2.St} {e : Expr} {pos : Pos} {rest : List Stmt} {i : Nat} {w : FsD → D} {m : M (FsD × D)}
theorem EvCh.bind {t : TE} {k : FsD × D → Ctl X S} {Si Hi : Hp} {Q : VK} (h : EvCh F t Γ i w m) (g : Grow S0 H0 Si Hi) (hh : Holds F.G H0 σ Si Hi Γ) (wk : Weak Γ (fx x0)) (po : OPo F S0 H0 Dn ((m.bindC x0 k).out fx fs))
    (hq : ∀ r S1 H1 v, Grow S0 H0 S1 H1 → Holds F.G H0 σ S1 H1 (Γ.set i (Sl.own (w r.1))) → Rep F.G S1 v r.2 → OPo F S0 H0 Dn ((k r).out fx fs) → Q v H1) : t σ Hi Q := by
  refine h S0 H0 σ Si Hi Q g hh ?_
  cases m with
  | stk => exact po
  | exn x => exact fun cls dd S' H' g' hh' rx => po cls dd σ S' H' g' ⟨Γ, hh', wk⟩ rx
  | ok r => exact fun S' H' v g' hh' rv => hq r S' H' v g' hh' rv po
end
end Mir
namespace Mir
open PySem PySem.Spec L2
section
variable {F : Fm} {Γ : Gam} {a b e : Expr} {pos : Pos} {i : Nat} {w : FsD → D} {m : M (FsD × D)} {mt : M (FsD × Bool)}
section
variable {X S : Type} {fx : X → Gam} {fs : S → Gam} {x0 : X} {A rest : List Stmt}
end
end
end Mir
namespace Mir
open PySem PySem.Spec L2
structure IaddK (G : GG) (k c : Nat) (m : FsD → List D → M (FsD × Option D)) : Prop where
  ex : ∃ f j, j ≤ k ∧ FnR G.P G.w G.K G.mg G.base (L2.CX G.P G.w) j f (spO G c m) ∧ PySem.W.findIn G.K (.ref (G.ca c)) "__iadd__" = some (some (.ref f)) ∧ PySem.W.isFn G.K (.ref f) = true ∧ PySem.W.selfFirst G.K (G.ca c) = true
section
variable {F : Fm} {Γ : Gam} {X S : Type} {fx : X → Gam} {fs : S → Gam} {x0 : X} {e : Expr} {me : M D} {rest : List Stmt} {c : Nat} {m : FsD → List D → M (FsD × Option D)} {pos : Pos}
end
end Mir
namespace Mir
open PySem PySem.Spec L2
structure SetiK (G : GG) (k c : Nat) (m : FsD → List D → M (FsD × Option D)) : Prop where
  ex : ∃ f j, j ≤ k ∧ FnR G.P G.w G.K G.mg G.base (L2.CX G.P G.w) j f (spO G c m) ∧ PySem.W.findIn G.K (.ref (G.ca c)) "__setitem__" = some (some (.ref f)) ∧ PySem.W.isFn G.K (.ref f) = true ∧ PySem.W.noSeq G.K (G.ca c) = true
section
variable {F : Fm} {Γ : Gam} {X S : Type} {fx : X → Gam} {fs : S → Gam} {x0 : X} {ki vi : Expr} {mv mk : M D} {rest : List Stmt} {c : Nat} {m : FsD → List D → M (FsD × Option D)} {pos p p2 : Pos}
end
end Mir
namespace Mir
open PySem PySem.Spec L2
section
variable {F : Fm} {Γ : Gam} {a b e : Expr} {pos : Pos} {i : Nat} {w : FsD → D} {m : M (FsD × Bool)}
end
end Mir
namespace Mir
open PySem PySem.Spec L2
structure PropK (G : GG) (k c : Nat) (f : Str) (m : List D → M D) : Prop where
  ex : ∃ g fd ps p j, j + 1 ≤ k ∧ FnOk G.P G.w G.K G.mg G.base (L2.CX G.P G.w) j g fd ps (spM G m) ∧ PropOf G.K (G.ca c) f p g ∧ Cls G.K (G.ca c) ∧ Binds G.K fd ps []
section
variable {F : Fm} {Γ : Gam} {e : Expr} {me : M D} {c : Nat} {f : Str} {m : List D → M D} {pos : Pos}
end
end Mir
namespace Mir
open PySem PySem.Spec L2
section
variable {F : Fm} {Γ : Gam} {pos apos p3 : Pos} {i c : Nat} {w : FsD → D} {fs : FsD} {m : FsD → List D → M (FsD × Option D)} {name n : Str}
end
end Mir
namespace Mir
open PySem PySem.Spec L2
structure MetOK (G : GG) (lev c : Nat) (name kw : Str) (m : FsD → List D → M (FsD × Option D)) : Prop where
  ex : ∃ f fd ps j, j ≤ lev ∧ FnOk G.P G.w G.K G.mg G.base (L2.CX G.P G.w) j f fd ps (spO G c m) ∧ Meth G.K (G.ca c) name f ∧ Cls G.K (G.ca c) ∧ KBn G.K fd ps 1 [kw] (fun us ws => us ++ ws) (fun vs zs => vs ++ zs) ∧ ps.length = 2
section
variable {X : Cx} {CX : CXT} {pins : List (Addr × Obj)} {σ : L2.St} {H : Hp} {s : Shared} {n k : Nat} {f : Addr} {fd : FuncData} {ps ks : List Str} {sp : Sp} {E : XK}
end
section
variable {F : Fm} {Γ : Gam} {e : Expr} {me : M D} {pos apos p3 kp : Pos} {i c : Nat} {w : FsD → D} {fs : FsD} {m : FsD → List D → M (FsD × Option D)} {name n kw : Str}
end
end Mir
namespace Mir
open PySem PySem.Spec L2
open PyProof.Rows (envOfC)
theorem PoO.step {G : GG} {E : XK} {S H S1 H1 : Hp} {p : Addr} {c : Nat} {fs : FsD} {Q : VK} {m : M (FsD × Option D)} (h : PoO G E S H p c fs Q m) (g : Grow S H S1 H1) : PoO G E S1 H1 p c fs Q m := by
  have back : ∀ {S' H' : Hp} {f : FsD}, OwnAt G H1 S' H' p (.obj c f) → OwnAt G H S' H' p (.obj c f) := by
    rintro S' H' f ⟨dx, vs, k1, k2, k3, k4, k5, k6⟩
    exact ⟨dx, vs, k1, k2, k3, g.h.free k4, k5, k6⟩
  cases m with
  | stk => exact h
  | exn e => exact fun cls dd S' H' g' sp o rx => h cls dd S' H' (g.trans g') sp (back o) rx
  | ok r => exact fun S' H' v g' sp o a => h S' H' v (g.trans g') sp (back o) a
end Mir
set_option maxHeartbeats 1000000
namespace Mir
open PySem PySem.Spec L2
open PyProof.Rows (envOfC)
def elK (c : M Bool) (k v : M D) : M (Option (Key × D)) := ifM c (k.bind fun kd => (ofOpt (keyOf kd)).bind fun key => v.bind fun vd => .ok (some (key, vd))) (.ok none)
def putO (acc : List (Key × D)) : Option (Key × D) → List (Key × D)
  | none => acc
  | some (k, v) => putD acc k v
def dcL (f : D → M (Option (Key × D))) : List D → List (Key × D) → M (List (Key × D))
  | [], acc => .ok acc
  | d :: ds, acc => (f d).bind fun o => dcL f ds (putO acc o)
def dcM (i : M (List D)) (f : D → M (Option (Key × D))) : M D := i.bind fun ds => ((dcL f ds []).nox).bind fun kvs => if ds.length ≤ sizeLine then .ok (.dks kvs) else .stk
theorem putD_len {kvs : List (Key × D)} {k : Key} {v : D} : (putD kvs k v).length ≤ kvs.length + 1 := by
  unfold putD
  split
  · rw [List.length_map]; omega
  · rw [List.length_append]; exact Nat.le_refl _
structure BsD (G : GG) (S1 H1 : Hp) (L : Addr) (acc : List (Key × D)) (S H : Hp) : Prop where
  grow : Grow S1 H1 S H
  at_ : ∃ ks, H L = some (.dK ks) ∧ ks.map (·.1) = acc.map (·.1) ∧ Reps G S (ks.map (·.2)) (acc.map (·.2))
  non : S L = none
section
variable {G : GG} {S1 H1 S H : Hp} {L : Addr} {acc : List (Key × D)}
theorem BsD.step {S' H' : Hp} (b : BsD G S1 H1 L acc S H) (g : Grow S H S' H') : BsD G S1 H1 L acc S' H' := by
  obtain ⟨vs, h, n, r⟩ := b.at_
  exact ⟨b.grow.trans g, ⟨vs, g.h _ _ h, n, r.mono g.s⟩, g.sep L ⟨_, h, fun _ z => by cases z⟩ b.non⟩
theorem BsD.put (b : BsD G S1 H1 L acc S H) (hL : H1 L = none) {y : L2.V} {d : D} {k : Key} (r : Rep G S y d) {ks : List (Key × L2.V)} (h : H L = some (.dK ks)) : BsD G S1 H1 L (putD acc k d) S (upd H L (.dK (putK ks k y))) := by
  obtain ⟨vs', h', n, rs⟩ := b.at_
  rw [h] at h'
  cases h'
  obtain ⟨n2, r2⟩ := put_rep (k := k) r n rs
  exact ⟨b.grow.own b.non hL, ⟨_, upd_same, n2, r2⟩, b.non⟩
theorem BsD.done (b : BsD G S1 H1 L acc S H) (hL : H1 L = none) : ∃ S', Grow S1 H1 S' H ∧ Rep G S' (.ref L) (.dks acc) := by
  obtain ⟨vs, h, n, r⟩ := b.at_
  refine ⟨upd S L (.dK vs), ⟨b.grow.s.trans (ex_upd b.non), b.grow.h, fun a u q => ?_, fun p h1 h2 => ?_⟩, .dks (.inl upd_same) n (r.mono (ex_upd b.non))⟩
  · by_cases z : a = L
    · subst z; rw [upd_same] at q; rw [h]; exact q
    · rw [upd_ne z] at q; exact b.grow.sub a u q
  · rw [upd_ne (fun z => by subst z; exact h1.ne hL)]
    exact b.grow.sep p h1 h2
end
section
variable {F : Fm} {Γ : Gam} {scope : Scope} {own : List (Str × Nat)} {V L : List Bool} {kd : List (Str × NameKind)} {kx vx tg iter : Expr} {ifs : List Expr} {pos : Pos} {mi : M (List D)} {f : D → M (Option (Key × D))} {tf : D → Gam → Option Gam}
def TurnK (F : Fm) (Γ : Gam) (tf : D → Gam → Option Gam) (ifs : List Expr) (kx vx : Expr) (f : D → M (Option (Key × D))) : Prop :=
  ∀ d, (∃ Γ' mt mk mv, tf d Γ = some Γ' ∧ IfM F ifs Γ' mt ∧ EM F kx Γ' mk ∧ EM F vx Γ' mv ∧ f d = elK mt mk mv) ∨ f d = .stk
theorem ev_dc (B : BlkF F scope own V L kd) (hi : IM F tg iter Γ mi) {g : TG} (hg : ∀ H0 σ S H v d Γ Γ' (Q : L2.St → Hp → Prop), Holds F.G H0 σ S H Γ → Rep F.G S v d → tf d Γ = some Γ' → (∀ σ', Holds F.G H0 σ' S H Γ' → σ'.length = σ.length → (∀ i : Nat, L[i]? ≠ some true → σ'[i]? = σ[i]?) → Q σ' H) → g v σ H Q)
    (ht : TurnK (blkF F B) (wipeΓ Γ (own.map (·.2))) tf ifs kx vx f) : EvM F (tDc (cI F tg iter) g (cP (blkF F B) ifs) (cE (blkF F B) kx) (cE (blkF F B) vx) (own.map (·.2))) Γ (dcM mi f) := by
  intro H0 σ S H Q hh po
  refine hi.c H0 σ S H _ hh ((Po.bind po).imp fun ds S1 H1 g1 q1 J hJ => ?_)
  intro A hA
  cases hc : dcL f ds [] with
  | stk => rw [hc] at q1; exact False.elim q1
  | exn e => rw [hc] at q1; exact False.elim q1
  | ok R =>
    rw [hc] at q1
    obtain ⟨hR, q1⟩ := Po.gate (m := M.ok (D.dks R)) q1
    have h1 : Holds F.G H0 σ S1 H1 Γ := hh.grow g1
    refine ⟨fun i m H => m = ds.length - i ∧ i ≤ ds.length ∧ ∃ S acc, acc.length ≤ i ∧ BsD F.G S1 H1 A acc S H ∧ dcL f (ds.drop i) acc = .ok R, ⟨ds.length, by simp, Nat.zero_le _, S1, [], Nat.le_refl _, ⟨Grow.newOwn g1.sub hA, ⟨[], upd_same, rfl, .nil⟩, sub_none g1.sub hA⟩, hc⟩, ?_⟩
    rintro i m H2 ⟨rfl, hi, S2, acc, hacc, b, hr⟩
    obtain ⟨stop, go⟩ := hJ S2 H2 b.grow.s b.grow.sub
    by_cases hlt : i < ds.length
    · obtain ⟨hgo, hy⟩ := go i ds[i] (List.getElem?_eq_getElem hlt)
      rw [List.drop_eq_getElem_cons hlt] at hr
      have hr : ((f ds[i]).bind fun o => dcL f (ds.drop (i + 1)) (putO acc o)) = .ok R := hr
      cases hx : f ds[i] with
      | stk => rw [hx] at hr; cases hr
      | exn e => rw [hx] at hr; cases hr
      | ok o =>
      rw [hx] at hr
      have hr : dcL f (ds.drop (i + 1)) (putO acc o) = .ok R := hr
      refine .inr ⟨hgo, fun H => ∃ S, BsD F.G S1 H1 A (putO acc o) S H, fun H' ⟨S', b'⟩ => ⟨ds.length - (i + 1), by omega, rfl, hlt, S', putO acc o, ?_, b', hr⟩, fun x H3 y => ?_⟩
      · cases o with
        | none => exact Nat.le_succ_of_le hacc
        | some p => exact Nat.le_trans putD_len (Nat.succ_le_succ hacc)
      obtain ⟨S3, g3, r3⟩ := hy x H3 y
      rcases ht ds[i] with ⟨Γ', mt, mk, mv, e1, hif, hkx, hvx, hf⟩ | z
      · have h3 := ((h1.grow b.grow).grow g3).wipe (own.map (·.2))
        refine hg H0 _ S3 H3 x ds[i] _ Γ' _ h3 r3 e1 fun σ4 h4 l4 k4 => ⟨wipe_eq l4 k4 B.hw |>.trans ?_, ?_⟩
        · refine List.ext_getElem? fun j => ?_
          by_cases hj : j ∈ own.map (·.2)
          · rw [wipe_at hj, wipe_at hj, wipe_length]
          · rw [wipe_out hj]
        rw [hf] at hx
        have b3 := b.step g3
        cases mt with
        | stk => cases hx
        | exn e => cases hx
        | ok c =>
          refine hif.c H0 σ4 S3 H3 _ h4 (fun S5 H5 g5 => ?_)
          cases c with
          | false =>
            cases hx
            exact iteF ⟨S5, b3.step g5⟩
          | true =>
            have hx : (mk.bind fun kd => (ofOpt (keyOf kd)).bind fun key => mv.bind fun vd => M.ok (some (key, vd))) = .ok o := hx
            cases mk with
            | stk => cases hx
            | exn e => cases hx
            | ok kd' =>
            have hx : ((ofOpt (keyOf kd')).bind fun key => mv.bind fun vd => M.ok (some (key, vd))) = .ok o := hx
            cases hk : keyOf kd' with
            | none => rw [hk] at hx; cases hx
            | some key =>
            rw [hk] at hx
            have hx : (mv.bind fun vd => M.ok (some (key, vd))) = .ok o := hx
            cases mv with
            | stk => cases hx
            | exn e => cases hx
            | ok vd =>
            cases hx
            refine iteT (hkx.c H0 σ4 S5 H5 _ (h4.grow g5) (fun S6 H6 g6 v6 r6 => ?_))
            refine hvx.c H0 σ4 S6 H6 _ ((h4.grow g5).grow g6) (fun S7 H7 g7 v7 r7 => ?_)
            have b7 := ((b3.step g5).step g6).step g7
            obtain ⟨ks, hks, n7, _⟩ := b7.at_
            refine ⟨ks, key, rep_key r6 hk, hks, ?_, S7, b7.put hA r7 hks⟩
            have : ks.length = acc.length := by have := congrArg List.length n7; simpa using this
            omega
      · rw [z] at hx; cases hx
    · have e : i = ds.length := by omega
      subst e
      rw [List.drop_length] at hr
      cases hr
      obtain ⟨S', g', rr⟩ := b.done hA
      exact .inl ⟨stop, q1 S' H2 g' _ rr⟩
theorem em_dc (B : BlkF F scope own V L kd) (hcm : F.cm = true) (hi : IM F tg iter Γ mi) (hg : TgM (blkF F B) tg tf) (ht : TurnK (blkF F B) (wipeΓ Γ (own.map (·.2))) tf ifs kx vx f)
    (hs : ∀ X, F.Xs X → ∀ x, foldedSetIterable iter X.env x = pure x := by intros; rfl) : EM F (.DictComp kx vx [⟨tg, iter, ifs, 0⟩] scope pos) Γ (dcM mi f) := by
  obtain ⟨g, pg, eg⟩ := hg
  refine ⟨_, fun X hX => ?_, ev_dc B hi (g := g) (fun H0 σ S H v d Γ Γ' Q => eg H0 σ S H v d Γ Γ' Q) ht⟩
  have hn := F.hN X hX
  exact pe_dc (F.hc hcm X hX) (by rw [hn]; exact F.nd) (cI_ok X hX) (by rw [hn]; exact blk_of (by rw [F.hkd X hX]; exact B.ok)) (fun s H C cl fp => pg _ ⟨X, s, H, C, cl, fp, hX, rfl⟩) (fun s H C cl fp => cP_ok _ ⟨X, s, H, C, cl, fp, hX, rfl⟩) (fun s H C cl fp => cE_ok _ ⟨X, s, H, C, cl, fp, hX, rfl⟩) (fun s H C cl fp => cE_ok _ ⟨X, s, H, C, cl, fp, hX, rfl⟩) (hs X hX)
end
end Mir
set_option maxHeartbeats 1000000
namespace Mir
open PySem PySem.Spec L2
open PyProof.Rows (envOfC)
section
variable {F : Fm} {Γ : Gam} {scope : Scope} {own : List (Str × Nat)} {V L : List Bool} {kd : List (Str × NameKind)} {elt tg : Expr} {ifs : List Expr} {pos : Pos} {f : D → M (List D)} {tf : D → Gam → Option Gam}
end
end Mir
namespace Mir
open PySem PySem.Spec L2
open PyProof.Rows (envOfC)
def LitO (it l : Addr) : HO := .ext fun h => h.IsListIter it l 0
def spItL (G : GG) (c : Nat) (f : Str) : Sp := fun vs H Q _ => ∃ a dx fs l xs, vs = [.ref a] ∧ H a = some (.ins (G.ca c) dx fs) ∧ fs.lookup f = some (.ref l) ∧ H l = some (.lst xs) ∧ ∀ it, H it = none → (∀ b u, H b = some u → b < it) → Q (.ref it) (upd H it (LitO it l))
section
variable {X : Cx} {pins : List (Addr × Obj)} {σ : L2.St} {H : Hp} {s : Shared} {G : GG} {c n : Nat} {f : Str} {fi a q it : Addr} {fdI : FuncData} {psI : List Str}
end
structure ItKL (G : GG) (k c : Nat) (f : Str) : Prop where
  ex : ∃ fi fd ps j, j + 2 ≤ k ∧ FnOk G.P G.w G.K G.mg G.base (L2.CX G.P G.w) j fi fd ps (spItL G c f) ∧ ItS G.K (G.ca c) fi ∧ Binds G.K fd ps []
theorem ItKL.mono {G : GG} {j k c : Nat} {f : Str} (h : ItKL G j c f) (l : j ≤ k) : ItKL G k c f := by
  obtain ⟨fi, fd, ps, i, hi, r⟩ := h.ex
  exact ⟨fi, fd, ps, i, Nat.le_trans hi l, r⟩
end Mir
namespace Mir
open PySem PySem.Spec L2
open PyProof.Rows (envOfC)
theorem PropK.mono {G : GG} {j k c : Nat} {f : Str} {m : List D → M D} (h : PropK G j c f m) (l : j ≤ k) : PropK G k c f m := by
  obtain ⟨g, fd, ps, p, i, hi, r⟩ := h.ex
  exact ⟨g, fd, ps, p, i, Nat.le_trans hi l, r⟩
section
variable {F : Fm} {Γ : Gam} {o : Expr} {mo : M D} {pos apos : Pos}
end
end Mir
set_option maxHeartbeats 1000000
namespace L2
open PySem PySem.Spec
section
variable {X : Cx}
end
end L2
namespace Mir
open PySem PySem.Spec L2
open PyProof.Rows (envOfC)
theorem sw_cellD {F : Fm} {X : Cx} (hX : F.Xs X) {x : Str} {kx vx : Expr} {gs : List Comprehension} {scope : Scope} {pos py : Pos} {l : Nat} (hk : F.kd.lookup x = some .cell) : swapsWith (.DictComp kx vx gs scope pos) (some (.Name x py)) l X.env = pure false := by
  have hk' : X.env.scope.names.lookup x = some .cell := by rw [F.hkd X hX]; exact hk
  have ky : X.env.kindOf x = some .cell := hk'
  unfold swapsWith
  simp only [ky]
  rw [show (some NameKind.cell == some NameKind.local) = false by decide, Bool.and_false, Bool.false_and, Bool.false_and]
theorem sw_cellL {F : Fm} {X : Cx} (hX : F.Xs X) {x : Str} {kx : Expr} {gs : List Comprehension} {scope : Scope} {pos py : Pos} {l : Nat} (hk : F.kd.lookup x = some .cell) : swapsWith (.ListComp kx gs scope pos) (some (.Name x py)) l X.env = pure false := by
  have hk' : X.env.scope.names.lookup x = some .cell := by rw [F.hkd X hX]; exact hk
  have ky : X.env.kindOf x = some .cell := hk'
  unfold swapsWith
  simp only [ky]
  rw [show (some NameKind.cell == some NameKind.local) = false by decide, Bool.and_false, Bool.false_and, Bool.false_and]
section
variable {F : Fm} {Γ : Gam} {scope : Scope} {own : List (Str × Nat)} {V L : List Bool} {kd : List (Str × NameKind)} {kx vx tg iter : Expr} {ifs : List Expr} {pos : Pos} {mi : M (List D)} {f : D → M (Option (Key × D))} {tf : D → Gam → Option Gam}
end
end Mir
set_option maxHeartbeats 1000000
namespace Mir
open PySem PySem.Spec L2
open PyProof.Rows (envOfC)
section
variable {F : Fm} {Γ : Gam} {a b : Expr} {ma mb : M D} {pos p1 : Pos} {rest : List Stmt} {X S : Type} {fx : X → Gam} {fs : S → Gam} {x0 : X}
end
end Mir
set_option maxHeartbeats 1000000
namespace Mir
open PySem PySem.Spec L2
open PyProof.Rows (envOfC)
section
variable {F : Fm} {Γ : Gam} {X S : Type} {fx : X → Gam} {fs : S → Gam} {x0 : X} {e : Expr} {m : M D} {rest : List Stmt}
end
end Mir
set_option maxHeartbeats 1000000
namespace L2
open PySem PySem.Spec PyProof.Rows
section
variable {X : Cx}
end
end L2
namespace Mir
open PySem PySem.Spec L2
open PyProof.Rows (envOfC ltCps_eq sortedS risingS)
section
variable {F : Fm} {Γ : Gam} {e : Expr} {es : List Expr} {pos : Pos}
end
end Mir
set_option maxHeartbeats 1000000
namespace Mir
open PySem PySem.Spec L2
section
variable {F : Fm} {Γ : Gam} {e : Expr} {es : List Expr} {pos : Pos}
end
section
variable {G : GG} {S T : Hp}
end
section
variable {F : Fm} {Γ : Gam} {X S : Type} {fx : X → Gam} {fs : S → Gam} {x0 : X} {e : Expr} {es : List Expr} {pos pos' : Pos} {rest : List Stmt}
end
end Mir
set_option maxHeartbeats 1000000
namespace L2
open PySem PySem.Spec PyProof.Rows
end L2
namespace Mir
open PySem PySem.Spec L2
section
variable {F : Fm} {Γ : Gam} {a b c : Expr} {ma mb mc : M D} {pos apos cpos : Pos}
end
end Mir
namespace Mir
open PySem PySem.Spec L2
section
variable {F : Fm} {Γ : Gam} {a b : Expr} {ma mb : M D} {pos p1 : Pos}
end
mutual
def noLst : D → Bool
  | .non => true | .bl _ => true | .int _ => true | .str _ => true
  | .tup xs => noLsts xs
  | .obj _ fs => noLstF fs
  | _ => false
def noLsts : List D → Bool
  | [] => true
  | d :: ds => noLst d && noLsts ds
def noLstF : List (Str × D) → Bool
  | [] => true
  | (_, d) :: ds => noLst d && noLstF ds
end
section
variable {G : GG} {S T : Hp}
mutual
theorem rep_noLst (k : OffL S T) : ∀ {d : D} {v : V}, noLst d = true → Rep G S v d → Rep G T v d
  | .non, _, _, .non => .non
  | .bl b, _, _, .bl _ => .bl b
  | .int b, _, _, .int _ => .int b
  | .str b, _, _, .str _ => .str b
  | .adr a, _, _, .adr _ => .adr a
  | .ktp _, _, _, .kt k r => .kt k r
  | .tup xs, _, h, .tup e r => .tup (k _ _ e fun us z => by cases z) (reps_noLst k (by simpa [noLst] using h) r)
  | .obj c fs, _, h, .obj e1 e2 n r => .obj (k _ _ e1 fun us z => by cases z) (k _ _ e2 fun us z => by cases z) n (repf_noLst k (by simpa [noLst] using h) r)
  | .lst _, _, h, _ => by simp [noLst] at h
  | .dct _, _, h, _ => by simp [noLst] at h
  | .dks _, _, h, _ => by simp [noLst] at h
  | .slf _ _ _, _, h, _ => by simp [noLst] at h
  | .scr _, _, h, _ => by simp [noLst] at h
theorem reps_noLst (k : OffL S T) : ∀ {ds : List D} {vs : List V}, noLsts ds = true → Reps G S vs ds → Reps G T vs ds
  | [], _, _, .nil => .nil
  | d :: ds, _, h, .cons r rs => by
    have h : noLst d = true ∧ noLsts ds = true := by simpa [noLsts] using h
    exact .cons (rep_noLst k h.1 r) (reps_noLst k h.2 rs)
theorem repf_noLst (k : OffL S T) : ∀ {fs : List (Str × D)} {vs : List V}, noLstF fs = true → Reps G S vs (fs.map (·.2)) → Reps G T vs (fs.map (·.2))
  | [], _, _, .nil => .nil
  | (x, d) :: ds, _, h, .cons r rs => by
    have h : noLst d = true ∧ noLstF ds = true := by simpa [noLstF] using h
    exact .cons (rep_noLst k h.1 r) (repf_noLst k h.2 rs)
end
end
section
variable {F : Fm} {Γ : Gam} {e : Expr} {es : List Expr} {pos : Pos}
end
end Mir
namespace Mir
open PySem PySem.Spec L2
def disX (zs xs : List D) : Bool := match zs, xs with
  | [], _ :: _ => true
  | _ :: _, [] => true
  | .non :: _, .tup _ :: _ => true
  | .int _ :: _, .tup _ :: _ => true
  | .str _ :: _, .tup _ :: _ => true
  | .dct _ :: _, .tup _ :: _ => true
  | .lst _ :: _, .tup _ :: _ => true
  | _, _ => false
def safeD (xs : List D) : D → Bool
  | .non => true
  | .bl _ => true
  | .int _ => true
  | .str _ => true
  | .tup ds => safeDs xs ds
  | .dct kvs => kvs.all fun p => isIx p.2
  | .lst ds => disX ds xs && safeDs xs ds
  | _ => false
where safeDs (xs : List D) : List D → Bool
  | [] => true
  | d :: ds => safeD xs d && safeDs xs ds
section
variable {G : GG} {S : Hp}
theorem lst_tup {p : Addr} {a b : List V} (h : S p = some (.lst a)) (k : S p = some (.tup b)) : False := by
  rw [h] at k
  cases k
theorem disX_no {zs xs : List D} {us : List V} (h : disX zs xs = true) (r : Reps G S us zs) (q : Reps G S us xs) : False := by
  cases r with
  | nil =>
    cases q
    exact absurd h (by decide)
  | cons r rs =>
    cases q with
    | cons q qs =>
      cases r <;> cases q <;> first
        | exact rd_tup (fun _ _ h => h) (by assumption) (by assumption)
        | exact lst_tup (by assumption) (by assumption)
        | exact absurd h (by simp [disX])
section
variable {p : Addr} {us : List V} {xs : List D}
mutual
theorem rep_safe (hp : S p = some (.lst us)) (hx : Reps G S us xs) : ∀ {d : D} {v : V}, safeD xs d = true → Rep G S v d → Rep G (minus S p) v d
  | .non, _, _, .non => .non
  | .bl b, _, _, .bl _ => .bl b
  | .int b, _, _, .int _ => .int b
  | .str b, _, _, .str _ => .str b
  | .adr a, _, _, .adr _ => .adr a
  | .ktp _, _, _, .kt k r => .kt k r
  | .tup ds, _, h, .tup e r => by
    refine .tup ?_ (reps_safe hp hx (by simpa [safeD] using h) r)
    rw [minus_ne]
    · exact e
    · intro z
      rw [z, hp] at e
      cases e
  | .lst ds, _, h, .lst (p := q) e r => by
    have h : disX ds xs = true ∧ safeD.safeDs xs ds = true := by simpa [safeD] using h
    refine .lst ?_ (reps_safe hp hx h.2 r)
    rw [minus_ne]
    · exact e
    · intro z
      subst z
      rw [hp] at e
      cases e
      exact (disX_no h.1 r hx).elim
  | .dct kvs, _, h, .dct (p := q) e n r => by
    have h : (kvs.all fun p => isIx p.2) = true := by simpa [safeD] using h
    have hq : q ≠ p := fun z => by
      subst z
      rcases e with z | ⟨o, z⟩ <;> rw [hp] at z <;> cases z
    refine .dct ?_ n (reps_ixs (all_snd h) r)
    rcases e with z | ⟨o, z⟩
    · exact .inl (by rw [minus_ne hq]; exact z)
    · exact .inr ⟨o, by rw [minus_ne hq]; exact z⟩
  | .dks _, _, h, _ => by simp [safeD] at h
  | .obj _ _, _, h, _ => by simp [safeD] at h
  | .slf _ _ _, _, h, _ => by simp [safeD] at h
  | .scr _, _, h, _ => by simp [safeD] at h
theorem reps_safe (hp : S p = some (.lst us)) (hx : Reps G S us xs) : ∀ {ds : List D} {vs : List V}, safeD.safeDs xs ds = true → Reps G S vs ds → Reps G (minus S p) vs ds
  | [], _, _, .nil => .nil
  | d :: ds, _, h, .cons r rs => by
    have h : safeD xs d = true ∧ safeD.safeDs xs ds = true := by simpa [safeD.safeDs] using h
    exact .cons (rep_safe hp hx h.1 r) (reps_safe hp hx h.2 rs)
end
end
end
section
variable {F : Fm} {Γ : Gam} {e : Expr} {m : M D}
end
end Mir
set_option maxHeartbeats 1000000
namespace Mir
open PySem PySem.Spec L2
open PyProof.Rows (envOfC)
mutual
def plD : D → Bool
  | .non => true | .bl _ => true | .int _ => true | .str _ => true | .ktp _ => true
  | .tup xs => plDs xs
  | .lst xs => plDs xs
  | _ => false
def plDs : List D → Bool
  | [] => true
  | d :: ds => plD d && plDs ds
end
mutual
def subs : D → List (List D)
  | .tup xs => subsL xs
  | .lst xs => xs :: subsL xs
  | _ => []
def subsL : List D → List (List D)
  | [] => []
  | d :: ds => subs d ++ subsL ds
end
section
variable {G : GG} {S T H : Hp}
def uni (S T : Hp) : Hp := fun p => (S p).or (T p)
def sing (p : Addr) (o : HO) : Hp := fun q => if q = p then some o else none
theorem uni_l : Ex S (uni S T) := fun p o e => by
  show (S p).or (T p) = some o
  rw [e]
  rfl
theorem uni_or {p : Addr} {o : HO} (h : uni S T p = some o) : S p = some o ∨ T p = some o := by
  have h : (S p).or (T p) = some o := h
  cases q : S p with
  | none => rw [q] at h; exact .inr h
  | some u => rw [q] at h; exact .inl h
theorem uni_r (a : Ex S H) (b : Ex T H) : Ex T (uni S T) := fun p o e => by
  show (S p).or (T p) = some o
  cases q : S p with
  | none => exact e
  | some u =>
    have h1 := a _ _ q
    rw [b _ _ e] at h1
    cases h1
    rfl
theorem uni_sub (a : Ex S H) (b : Ex T H) : Ex (uni S T) H := fun p o e => (uni_or e).elim (a p o) (b p o)
theorem sing_same {p : Addr} {o : HO} : sing p o p = some o := if_pos rfl
theorem sing_at {p q : Addr} {o u : HO} (h : sing p o q = some u) : q = p ∧ u = o := by
  unfold sing at h
  split at h
  · rename_i e
    exact ⟨e, (Option.some.inj h).symm⟩
  · cases h
theorem sing_sub {p : Addr} {o : HO} (h : S p = some o) : Ex (sing p o) S := fun q u e => by
  obtain ⟨rfl, rfl⟩ := sing_at e
  exact h
def nilH : Hp := fun _ => none
theorem nilH_sub : Ex nilH S := fun p o e => by cases e
def Lean1 (G : GG) (T : Hp) (ls : List (List D)) : Prop := ∀ p us, T p = some (.lst us) → ∃ xs, xs ∈ ls ∧ Reps G T us xs
mutual
theorem rep_reach : ∀ {d : D} {v : V}, plD d = true → Rep G S v d → ∃ T, Ex T S ∧ Rep G T v d ∧ Lean1 G T (subs d)
  | .non, _, _, .non => ⟨nilH, nilH_sub, .non, fun p us z => by cases z⟩
  | .bl b, _, _, .bl _ => ⟨nilH, nilH_sub, .bl b, fun p us z => by cases z⟩
  | .int b, _, _, .int _ => ⟨nilH, nilH_sub, .int b, fun p us z => by cases z⟩
  | .str b, _, _, .str _ => ⟨nilH, nilH_sub, .str b, fun p us z => by cases z⟩
  | .adr _, _, h, _ => by simp [plD] at h
  | .ktp _, _, _, .kt k r => ⟨nilH, nilH_sub, .kt k r, fun p us z => by cases z⟩
  | .scr _, _, h, _ => by simp [plD] at h
  | .dct _, _, h, _ => by simp [plD] at h
  | .dks _, _, h, _ => by simp [plD] at h
  | .obj _ _, _, h, _ => by simp [plD] at h
  | .slf _ _ _, _, h, _ => by simp [plD] at h
  | .tup xs, _, h, .tup (p := p) (vs := vs) e r => by
    obtain ⟨T, a, b, c⟩ := reps_reach (by simpa [plD] using h) r
    have e1 := sing_sub e
    refine ⟨uni T (sing p (.tup vs)), uni_sub a e1, .tup (uni_r a e1 _ _ sing_same) (b.mono uni_l), fun q us z => ?_⟩
    rcases uni_or z with z | z
    · obtain ⟨xs, m, r⟩ := c q us z
      exact ⟨xs, by unfold subs; exact m, r.mono uni_l⟩
    · exact absurd (sing_at z).2 (fun w => by cases w)
  | .lst xs, _, h, .lst (p := p) (vs := vs) e r => by
    obtain ⟨T, a, b, c⟩ := reps_reach (by simpa [plD] using h) r
    have e1 := sing_sub e
    refine ⟨uni T (sing p (.lst vs)), uni_sub a e1, .lst (uni_r a e1 _ _ sing_same) (b.mono uni_l), fun q us z => ?_⟩
    rcases uni_or z with z | z
    · obtain ⟨ys, m, r⟩ := c q us z
      exact ⟨ys, by unfold subs; exact List.mem_cons_of_mem _ m, r.mono uni_l⟩
    · have w := (sing_at z).2
      cases w
      exact ⟨xs, by unfold subs; exact List.mem_cons_self, b.mono uni_l⟩
theorem reps_reach : ∀ {ds : List D} {vs : List V}, plDs ds = true → Reps G S vs ds → ∃ T, Ex T S ∧ Reps G T vs ds ∧ Lean1 G T (subsL ds)
  | [], _, _, .nil => ⟨nilH, nilH_sub, .nil, fun p us z => by cases z⟩
  | d :: ds, _, h, .cons r rs => by
    have h : plD d = true ∧ plDs ds = true := by simpa [plDs] using h
    obtain ⟨T, a, b, c⟩ := rep_reach h.1 r
    obtain ⟨U, a', b', c'⟩ := reps_reach h.2 rs
    refine ⟨uni T U, uni_sub a a', .cons (b.mono uni_l) (b'.mono (uni_r a a')), fun q us z => ?_⟩
    rcases uni_or z with z | z
    · obtain ⟨xs, m, r⟩ := c q us z
      exact ⟨xs, by unfold subsL; exact List.mem_append_left _ m, r.mono uni_l⟩
    · obtain ⟨xs, m, r⟩ := c' q us z
      exact ⟨xs, by unfold subsL; exact List.mem_append_right _ m, r.mono (uni_r a a')⟩
end
end
def NewRep (G : GG) (H T : Hp) (v : V) (d : D) : Prop := Rep G T v d ∧ Lean1 G T (subs d) ∧ ∀ p us, T p = some (.lst us) → H p = none
def EvN (F : Fm) (t : TE) (Γ : Gam) (d : D) : Prop := ∀ H0 σ S H Q, Holds F.G H0 σ S H Γ → (∀ v H' T, Ex H H' → Ex T H' → NewRep F.G H T v d → Q v H') → t σ H Q
def NM (F : Fm) (e : Expr) (Γ : Gam) (d : D) : Prop := ∃ t, (∀ X, F.Xs X → PE X e t) ∧ EvN F t Γ d
theorem NM.c {F : Fm} {e : Expr} {Γ : Gam} {d : D} (h : NM F e Γ d) : EvN F (cE F e) Γ d := let ⟨t, p, q⟩ := h; fun H0 σ S H Q hh po => ⟨t, p, q H0 σ S H Q hh po⟩
section
variable {F : Fm} {Γ : Gam} {c a b e : Expr} {es : List Expr} {pos : Pos} {d : D}
end
section
variable {F : Fm} {Γ : Gam} {scope : Scope} {own : List (Str × Nat)} {V L : List Bool} {kd : List (Str × NameKind)} {elt tg iter : Expr} {pos : Pos} {mi : M (List D)} {tf : D → Gam → Option Gam} {ds R : List D}
end
section
variable {F : Fm} {Γ : Gam} {scope : Scope} {own : List (Str × Nat)} {V L : List Bool} {kd : List (Str × NameKind)} {elt tg iter : Expr} {pos : Pos} {mi : M (List D)} {tf : D → Gam → Option Gam} {a b d0 d1 : D} {Γa Γb : Gam}
end
end Mir
set_option maxHeartbeats 1000000
namespace Mir
open PySem PySem.Spec L2
open PyProof.Rows (envOfC)
section
variable {F : Fm} {Γ : Gam} {d0 d1 : D} {st : Stmt} {rest : List Stmt}
end
def KnSp (G : GG) (k : Nat) (x : Str) (sp : Sp) : Prop := ∃ f fd ps j, j ≤ k ∧ FnOk G.P G.w G.K G.mg G.base (L2.CX G.P G.w) j f fd ps sp ∧ G.mg x = some (.ref f) ∧ PySem.W.keepIn G.K (.ref f) = true ∧ Binds G.K fd ps []
theorem KnSp.mono {G : GG} {j k : Nat} {x : Str} {sp : Sp} (h : KnSp G j x sp) (l : j ≤ k) : KnSp G k x sp := by
  obtain ⟨f, fd, ps, i, hi, r⟩ := h
  exact ⟨f, fd, ps, i, Nat.le_trans hi l, r⟩
theorem knSp_mk {G : GG} {j : Nat} {f : Addr} {fd : FuncData} {ps : List Str} {x : Str} {sp : Sp} (ok : FnOk G.P G.w G.K G.mg G.base (L2.CX G.P G.w) j f fd ps sp) (hm : G.mg x = some (.ref f)) (hk : PySem.W.keepIn G.K (.ref f) = true) (hb : Binds G.K fd ps []) : KnSp G j x sp := ⟨f, fd, ps, j, Nat.le_refl _, ok, hm, hk, hb⟩
section
variable {F : Fm} {Γ : Gam} {c e : Expr} {es : List Expr} {pos p : Pos} {x : Str} {m : List D → M D} {ml : M (List D)} {d : D}
end
structure MethP (G : GG) (k c : Nat) (name : Str) (sp : Sp) : Prop where
  ex : ∃ f fd ps j, j ≤ k ∧ FnOk G.P G.w G.K G.mg G.base (L2.CX G.P G.w) j f fd ps sp ∧ Meth G.K (G.ca c) name f ∧ Cls G.K (G.ca c) ∧ Binds G.K fd ps []
theorem MethP.mono {G : GG} {j k c : Nat} {x : Str} {sp : Sp} (h : MethP G j c x sp) (l : j ≤ k) : MethP G k c x sp := by
  obtain ⟨f, fd, ps, i, hi, r⟩ := h.ex
  exact ⟨f, fd, ps, i, Nat.le_trans hi l, r⟩
end Mir
set_option maxHeartbeats 1000000
namespace Mir
open PySem PySem.Spec L2
open PyProof.Rows (envOfC)
def NoT (S : Hp) : Prop := ∀ p ps, S p ≠ some (.tbl ps)
def ntO : Option HO → Option HO
  | some (.tbl _) => none
  | o => o
def nt (S : Hp) : Hp := fun p => ntO (S p)
section
variable {G : GG} {S T H H' H0 : Hp}
theorem ntO_at {o : Option HO} {u : HO} (h : ntO o = some u) : o = some u ∧ ∀ ps, u ≠ .tbl ps := by
  unfold ntO at h
  split at h
  · cases h
  · rename_i n
    exact ⟨h, fun ps z => n ps (by rw [h, z])⟩
theorem nt_at {p : Addr} {o : HO} (h : S p = some o) (n : ∀ ps, o ≠ .tbl ps) : nt S p = some o := by
  show ntO (S p) = _
  rw [h]
  unfold ntO
  split
  · rename_i e
    exact absurd (Option.some.inj e) (n _)
  · rfl
theorem nt_sub : Ex (nt S) S := fun p o e => (ntO_at (show ntO (S p) = _ from e)).1
theorem nt_no : NoT (nt S) := fun p ps e => (ntO_at (show ntO (S p) = _ from e)).2 ps rfl
theorem nt_none {p : Addr} (h : S p = none) : nt S p = none := by
  show ntO (S p) = none
  rw [h]
  rfl
theorem nt_rd {a : Addr} {u : HO} (h : Rd S a u) (n : ∀ ps, u ≠ .tbl ps) : Rd (nt S) a u := by
  rcases h with h | ⟨o, h⟩
  · exact .inl (nt_at h n)
  · exact .inr ⟨o, nt_at h (fun _ z => by cases z)⟩
mutual
theorem Rep.nt : ∀ {v : V} {d : D}, Rep G S v d → Rep G (Mir.nt S) v d
  | _, _, .non => .non
  | _, _, .bl b => .bl b
  | _, _, .int i => .int i
  | _, _, .str x => .str x
  | _, _, .tup h r => .tup (nt_at h (fun _ z => by cases z)) (Reps.nt r)
  | _, _, .lst h r => .lst (nt_at h (fun _ z => by cases z)) (Reps.nt r)
  | _, _, .scr h => .scr (h.elim (fun z => .inl (nt_rd z (fun _ z => by cases z))) .inr)
  | _, _, .dct h n r => .dct (nt_rd h (fun _ z => by cases z)) n (Reps.nt r)
  | _, _, .dks h n r => .dks (nt_rd h (fun _ z => by cases z)) n (Reps.nt r)
  | _, _, .adr a => .adr a
  | _, _, .kt k r => .kt k r
  | _, _, .obj h k n r => .obj (nt_at h (fun _ z => by cases z)) (nt_at k (fun _ z => by cases z)) n (Reps.nt r)
  | _, _, .slf h k n r => .slf (nt_at h (fun _ z => by cases z)) (nt_at k (fun _ z => by cases z)) n (Reps.nt r)
theorem Reps.nt : ∀ {vs : List V} {ds : List D}, Reps G S vs ds → Reps G (Mir.nt S) vs ds
  | _, _, .nil => .nil
  | _, _, .cons h r => .cons (Rep.nt h) (Reps.nt r)
end
def Vals0 (Γ : Gam) : Prop := ∀ s, s ∈ Γ → s = .unk ∨ ∃ d, s = .val d
theorem ext_nt (n : NoT S) (e : Ex S H) (x : LamX.ExtN H H') : Ex S H' := fun p o h => x p o (e p o h) fun ps z => n p ps (by rw [h, z])
theorem holds0 {σ : St} {Γ : Gam} (v0 : Vals0 Γ) (hs : Ex S H) (h0 : Ex H0 H) (hl : Γ.length ≤ σ.length) (hv : ∀ (i : Nat) d, Γ[i]? = some (Sl.val d) → ∃ v, σ[i]? = some (some v) ∧ Rep G S v d) : Holds G H0 σ S H Γ := by
  have no : ∀ {i : Nat} {s : Sl}, Γ[i]? = some s → s = .unk ∨ ∃ d, s = .val d := fun h => v0 _ (List.mem_of_getElem? h)
  refine ⟨hs, h0, hl, hv, fun i d e => ?_, fun i j d e p a => ?_, fun i a e => ?_⟩
  · rcases no e with z | ⟨_, z⟩ <;> cases z
  · rcases no a with z | ⟨_, z⟩ <;> cases z
  · rcases no e with z | ⟨_, z⟩ <;> cases z
theorem Holds.move {σ : St} {Γ : Gam} {T H1 : Hp} (h : Holds G H0 σ S H Γ) (v0 : Vals0 Γ) (hr : ∀ v d, Rep G S v d → Rep G T v d) (hs : Ex T H') (h0 : Ex H1 H') : Holds G H1 σ T H' Γ :=
  holds0 v0 hs h0 h.len fun i d e => let ⟨v, a, r⟩ := h.val i d e; ⟨v, a, hr v d r⟩
theorem vals0_nil : Vals0 [] := fun s h => by cases h
theorem vals0_unk {Γ : Gam} (h : Vals0 Γ) : Vals0 (.unk :: Γ) := fun s m => (List.mem_cons.mp m).elim (fun z => .inl z) (h s)
theorem vals0_val {Γ : Gam} {d : D} (h : Vals0 Γ) : Vals0 (.val d :: Γ) := fun s m => (List.mem_cons.mp m).elim (fun z => .inr ⟨d, z⟩) (h s)
structure ExtT (H H' : Hp) : Prop where
  n : LamX.ExtN H H'
  t : L2.TblK H H'
theorem ExtT.of (e : Ex H H') : ExtT H H' := ⟨LamX.ExtN.of e, fun b ps h => ⟨ps, e _ _ h⟩⟩
theorem ExtT.trans {H1 : Hp} (a : ExtT H H') (b : ExtT H' H1) : ExtT H H1 := ⟨a.n.trans b.n, fun c ps h => let ⟨qs, z⟩ := a.t c ps h; b.t c qs z⟩
theorem ExtT.non (a : ExtT H H') {p : Addr} (h : H' p = none) : H p = none := by
  cases q : H p with
  | none => rfl
  | some o =>
    by_cases z : ∃ ps, o = .tbl ps
    · obtain ⟨ps, rfl⟩ := z
      obtain ⟨qs, w⟩ := a.t p ps q
      rw [h] at w
      cases w
    · have := a.n p o q fun ps e => z ⟨ps, e⟩
      rw [h] at this
      cases this
theorem ExtT.put (a : ExtT H H') {p : Addr} {o : HO} (h : H p = none) : ExtT H (upd H' p o) := ⟨fun b u e n => by rw [upd_ne (ne_of_none e h)]; exact a.n b u e n, fun b ps e => by rw [upd_ne (ne_of_none e h)]; exact a.t b ps e⟩
theorem tabs_upd {T : List (Addr × Str)} {a : Addr} {xs : List V} {o : HO} (t : LamX.Tabs T H) (h : H a = some (.lst xs)) : LamX.Tabs T (upd H a o) := fun p hp => by
  obtain ⟨ps, h1, h2, h3⟩ := t p hp
  have ne : p.1 ≠ a := fun z => by rw [z, h] at h1; cases h1
  refine ⟨ps, by rw [upd_ne ne]; exact h1, h2, fun pos cv hc => ?_⟩
  obtain ⟨c, e1, e2⟩ := h3 pos cv hc
  have ne2 : c ≠ a := fun z => by rw [z, h] at e2; cases e2
  exact ⟨c, e1, by rw [upd_ne ne2]; exact e2⟩
end
theorem tabs_new {T : List (Addr × Str)} {H : Hp} {a : Addr} {o : HO} (t : LamX.Tabs T H) (h : H a = none) : LamX.Tabs T (upd H a o) := t.ext (ex_upd h)
section
variable {prog : Program} {w : World} {A : Around} {s : Shared} {E : Value → Shared → Prop}
theorem walks_fromL (hh : A.handled = none) (I ax : Addr) (hne : ax ≠ I) (items : Array Value) (k : Nat) (hk : k ≤ items.size) :
    Walks prog w A I [I, ax] [I] (items.size - k) (fun j v => items[k + j]? = some v) (fun j h => h.IsListIter I ax (k + j) ∧ h.IsList ax items) := by
  have W := Walks.list (prog := prog) (w := w) hh I ax hne items
  refine ⟨W.sub, fun j h h' st kp => W.frame (k + j) h h' st kp, fun j s Q E hj st hQ => W.item (k + j) s Q E (by omega) st hQ, fun s Q E st hQ => W.done s Q E ?_ hQ, fun j s Q E st hQ => W.self (k + j) s Q E st hQ⟩
  have e : k + (items.size - k) = items.size := by omega
  rw [e] at st
  exact st
theorem items_starL {t : Addr} {items : Array Value} {i : Nat} {Q : List Value → Shared → Prop} (hh : A.handled = none) (ht : s.heap.IsList t items) (hi : i ≤ items.size) (hz : items.size ≤ sizeLine)
    (h : ∀ (h' : Heap) (tk : Nat), (∀ b o, s.heap.get? b = some o → h'.get? b = some o) → Q (items.toList.take i ++ [.ref h'.objs.size]) { s with heap := h'.push { cls := .type "list", data := .seq (items.toList.drop i).toArray }, toks := tk }) : wpAny (model prog w) A (unpackItems (.ref t) (i + 1) (some i)) Q E s := by
  have hlt : t ≠ s.heap.objs.size := by
    obtain ⟨ot, hot, -⟩ := ht
    exact Nat.ne_of_lt (Heap.lt_size hot)
  unfold unpackItems
  refine wpAny_bind ?_
  unfold notIterableAtAll
  refine wpAny_bind (wpAny_specialOf ht.typeIs PySem.F.slot_list_iter.lookup ?_)
  refine wpAny_pure ?_
  simp only [Bool.false_eq_true, if_false]
  refine wpAny_bind (wpAny_holding (wpAny_pyIter_list ht ?_))
  refine wpAny_bind (wpAny_holding (PySem.W.kun_draw hlt i 0 _ _ ⟨_, Heap.get?_push_size _ rfl, rfl, rfl⟩ (ht.push _) (by omega) fun hq hitq hsq => ?_))
  have hlen : ((items.toList.drop 0).take i).length = i := by
    rw [List.drop_zero, List.length_take, Array.length_toList]
    omega
  rw [if_neg (by rw [hlen]; exact Nat.lt_irrefl _)]
  have htq : hq.IsList t items := (ht.push _).extBut hsq.extBut hlt
  have k1 : ∀ b o, s.heap.get? b = some o → hq.get? b = some o := fun b o e => hsq.extBut b o (Nat.ne_of_lt (Heap.lt_size e)) (Heap.get?_push_of_some _ e)
  have W := (walks_fromL (prog := prog) (w := w) (A := A.in1) hh s.heap.objs.size t hlt items i hi).toS
  have hltq : ∀ b ∈ [s.heap.objs.size, t], b < hq.objs.size := fun b hb => by
    rcases List.mem_cons.mp hb with rfl | hb
    · obtain ⟨o, ho, _⟩ := hitq; exact Heap.lt_size ho
    · rw [List.mem_singleton.mp hb]; obtain ⟨o, ho, _⟩ := htq; exact Heap.lt_size ho
  refine wpAny_bind (wpAny_holding (wpAny_collect_iter (s := { s with heap := hq }) (.inr (.inr (.inl rfl))) W (fun j s' st => st.1.typeIs) ⟨by rw [Nat.zero_add] at hitq; exact hitq, htq⟩ hltq List.mem_cons_self (fun s' acc mv ia => ?_) (by omega)))
  have eacc : acc.toList = items.toList.drop i := PySem.W.kun_acc hi ia
  obtain ⟨hp', g', d', t', o'⟩ := s'
  obtain ⟨m1, m2, m3, m4, m5⟩ := mv
  dsimp only at m1 m2 m3 m4 m5
  subst m2 m3 m4
  have k2 : ∀ b o, s.heap.get? b = some o → hp'.get? b = some o := fun b o e => m1 b o (fun z => by rw [List.mem_singleton.mp z] at e; exact absurd (Heap.lt_size e) (Nat.lt_irrefl _)) (k1 b o e)
  rw [if_neg (by omega)]
  refine wpAny_bind ?_
  have e1 : acc.toList.length - (i + 1 - 1 - i) = acc.toList.length := by omega
  rw [e1, List.take_length, List.drop_length, eacc]
  simp only [List.append_nil, List.drop_zero]
  refine wpAny_newObj_type (wpAny_pure (h hp' t' k2)) ?_
  show (items.toList.drop i).toArray.size ≤ sizeLine
  rw [List.size_toArray, List.length_drop, Array.length_toList]
  omega
theorem unpack_starL {t : Addr} {items : Array Value} {i : Nat} {targets : List (Bool × (Value → Sem Unit))} {Q : Unit → Shared → Prop} (hh : A.handled = none) (ht : s.heap.IsList t items) (hi : i ≤ items.size) (hn : targets.length = i + 1) (hs : targets.findIdx? (·.1) = some i) (hz : items.size ≤ sizeLine)
    (h : ∀ (h' : Heap) (tk : Nat), (∀ b o, s.heap.get? b = some o → h'.get? b = some o) → wpAny (model prog w) A (assignInOrder (targets.map (·.2)) (items.toList.take i ++ [.ref h'.objs.size])) Q E { s with heap := h'.push { cls := .type "list", data := .seq (items.toList.drop i).toArray }, toks := tk }) : wpAny (model prog w) A (unpack (.ref t) targets) Q E s := by
  unfold unpack
  rw [hn, hs]
  exact wpAny_bind (wpAny_holding (items_starL hh ht hi hz h))
end
def gStarL (K : PySem.W.Frag) (i : Nat) (t : TGs) : TG := fun v σ H Q => ∃ a xs, v = .ref a ∧ SqL K H a xs ∧ i ≤ xs.length ∧ ∀ l, H l = none → t (xs.take i ++ [.ref l]) σ (upd H l (.lst (xs.drop i))) Q
theorem pg_starL {X : Cx} {es : List Expr} {k : Nat} {pos : Pos} {t : TGs} {i : Nat} (hc : X.calm = true) (h : PGs X es t) (hn : (assignEach es X.env).length = i + 1) (hst : (assignEach es X.env).findIdx? (·.1) = some i) : PG X (.Tuple es k pos) (gStarL X.K i t) := by
  refine ⟨fun pins s σ H v u Q I r hw => ?_⟩
  obtain ⟨a, xs, ev, hq, hl, hw⟩ := hw
  subst ev
  cases r
  obtain ⟨its, rv, ht, hz⟩ := I.list hq
  have ez : xs.length = its.length := rv.length
  rw [PyProof.Rows.assign_Tuple]
  refine wpAny_bind (wpAny_standAt (unpack_starL (I.ok.hd hc) ht.isList (by simpa [← ez] using hl) hn hst (by simpa [← ez] using hz) fun h' tk kp => ?_))
  have I1 : Inv X pins σ H { s with heap := h', toks := s.toks } := I.kept kp
  have hf : H h'.objs.size = none := I1.hok.fresh (Nat.le_refl _)
  have I2 : Inv X pins σ (upd H h'.objs.size (.lst (xs.drop i))) { s with heap := h'.push { cls := .type "list", data := .seq (its.drop i).toArray }, toks := tk } := I1.laid (t' := tk) (fun b u e => Heap.get?_push_of_some _ e) (Nat.le_refl _) ⟨by rw [List.length_drop]; omega, its.drop i, 0, rv.drop i, Heap.get?_push_size _ rfl⟩
  refine h.run pins _ σ _ (xs.take i ++ [.ref h'.objs.size]) _ Q I2 ((rv.take i).append (.cons (show RelV (V.ref h'.objs.size) (Value.ref h'.objs.size) from rfl) .nil)) (hw _ hf)
def tgStarL (i : Nat) (g : List D → Gam → Option Gam) (d : D) (Γ : Gam) : Option Gam := match d with
  | .lst ds => if i ≤ ds.length then g (ds.take i ++ [.lst (ds.drop i)]) Γ else none
  | _ => none
theorem tgg_starL {F : Fm} {es : List Expr} {pos : Pos} {k : Nat} {g : List D → Gam → Option Gam} (i : Nat) (h : TgsG F es g) (hcm : F.cm = true) (hn : ∀ X, F.Xs X → (assignEach es X.env).length = i + 1 := by intros; rfl) (hst : ∀ X, F.Xs X → (assignEach es X.env).findIdx? (·.1) = some i := by intros; rfl) : TgG F (.Tuple es k pos) (tgStarL i g) := by
  obtain ⟨t, p, f⟩ := h
  refine ⟨gStarL F.G.K i t, fun X hX => ?_, fun H0 σ S H v d Γ Γ' Q hh r e q => ?_⟩
  · have h := pg_starL (pos := pos) (k := k) (F.hc hcm X hX) (p X hX) (hn X hX) (hst X hX)
    rw [F.hK X hX] at h
    exact h
  · cases r with
    | @lst a vs ds h r =>
      have e : (if i ≤ ds.length then g (ds.take i ++ [.lst (ds.drop i)]) Γ else none) = some Γ' := e
      split at e
      · rename_i hi
        refine ⟨_, _, rfl, SqL.of (hh.ex _ _ h), by rw [r.length]; exact hi, fun l hl => ?_⟩
        have gr := Grow.new (o := .lst (vs.drop i)) hh.ex hl
        exact f H0 σ _ _ _ _ Γ Γ' Q (hh.grow gr) (Reps.append ((r.mono gr.s).take i) (.cons (.lst upd_same ((r.mono gr.s).drop i)) .nil)) e fun σ' S' H' g' h' => q σ' S' H' (gr.trans g') h'
      · cases e
    | _ => cases e
end Mir
namespace Mir
open PySem PySem.Spec L2
def c_position (p_a p_b p_c : D) : Ctl Unit Unit := M.bindC (b2 pyAdd (b2 pyAdd (b2 pyDiv (b2 pyMul (b2 pyMul (.ok p_c) (b2 pySub (.ok p_c) (.ok (.int 1)))) (b2 pySub (.ok p_c) (.ok (.int 2)))) (.ok (.int 6))) (b2 pyDiv (b2 pyMul (.ok p_b) (b2 pySub (.ok p_b) (.ok (.int 1)))) (.ok (.int 2)))) (.ok p_a)) () Ctl.ret
def m_position : List D → M D := ar3 c_position
def c_turn_of (p_letters p_a p_b p_c : D) : Ctl Unit Unit := M.bindC (.ok (.int 1)) () fun v1_sign => (M.bindC (b1 isB (b2 pyGt (.ok p_a) (.ok p_b))) () fun c => if c = true then (M.bindC (mlist [.ok p_b, .ok p_a, b1 pyNeg (.ok v1_sign)]) () fun v6_vs => unL3 .stk v6_vs fun v3_a v4_b v5_sign => .nx (v3_a, v4_b, v5_sign)) else (.nx (p_a, p_b, v1_sign)) : Ctl Unit (D × D × D)).bind fun (v2_j : D × D × D) => (M.bindC (b1 isB (b2 pyGt (.ok v2_j.2.1) (.ok p_c))) () fun c => if c = true then (M.bindC (mlist [.ok p_c, .ok v2_j.2.1, b1 pyNeg (.ok v2_j.2.2)]) () fun v11_vs => unL3 .stk v11_vs fun v8_b v9_c v10_sign => .nx (v8_b, v9_c, v10_sign)) else (.nx (v2_j.2.1, p_c, v2_j.2.2)) : Ctl Unit (D × D × D)).bind fun (v7_j : D × D × D) => (M.bindC (b1 isB (b2 pyGt (.ok v2_j.1) (.ok v7_j.1))) () fun c => if c = true then (M.bindC (mlist [.ok v7_j.1, .ok v2_j.1, b1 pyNeg (.ok v7_j.2.2)]) () fun v16_vs => unL3 .stk v16_vs fun v13_a v14_b v15_sign => .nx (v13_a, v14_b, v15_sign)) else (.nx (v2_j.1, v7_j.1, v7_j.2.2)) : Ctl Unit (D × D × D)).bind fun (v12_j : D × D × D) => M.bindC (b2 pyIx (.ok p_letters) (b1 m_position (mlist [.ok v12_j.1, .ok v12_j.2.1, .ok v7_j.2.1]))) () fun v17_letter => M.bindC (b1 isB (b2 pyEq (.ok v17_letter) (.ok (.str "?")))) () fun c => if c = true then (M.bindC (.ok (.int 0)) () Ctl.ret) else M.bindC (ifM (b1 isB (b2 pyEq (.ok v17_letter) (.ok (.str "L")))) (.ok v12_j.2.2) (b1 pyNeg (.ok v12_j.2.2))) () Ctl.ret
def m_turn_of : List D → M D := ar4 c_turn_of
def c_breaks_five (p_letters p_x p_a p_b p_c p_d : D) : Ctl Unit Unit := M.bindC (b2 pyMul (b1 m_turn_of (mlist [.ok p_letters, .ok p_x, .ok p_a, .ok p_b])) (b1 m_turn_of (mlist [.ok p_letters, .ok p_x, .ok p_c, .ok p_d]))) () fun v1_first => M.bindC (b2 pyMul (b1 pyNeg (b1 m_turn_of (mlist [.ok p_letters, .ok p_x, .ok p_a, .ok p_c]))) (b1 m_turn_of (mlist [.ok p_letters, .ok p_x, .ok p_b, .ok p_d]))) () fun v2_second => M.bindC (b2 pyMul (b1 m_turn_of (mlist [.ok p_letters, .ok p_x, .ok p_a, .ok p_d])) (b1 m_turn_of (mlist [.ok p_letters, .ok p_x, .ok p_b, .ok p_c]))) () fun v3_third => M.bindC (chM3 pyEq pyEq pyNe (.ok v1_first) (.ok v2_second) (.ok v3_third) (.ok (.int 0))) () Ctl.ret
def m_breaks_five : List D → M D := ar6 c_breaks_five
def c_threes (p_posts : D) : Ctl Unit Unit := M.bindC (lcM (b1 pyRange1 (mlist [.ok p_posts])) (fun v1_c => inM (.ok true) (b1 pyRange1 (mlist [.ok v1_c])) (fun v2_b => inM (.ok true) (b1 pyRange1 (mlist [.ok v2_b])) (fun v3_a => elM (.ok true) (b1 mkTup (mlist [.ok v3_a, .ok v2_b, .ok v1_c])))))) () Ctl.ret
def m_threes : List D → M D := ar1 c_threes
def c_last_breach (p_letters p_a p_b p_c : D) : Ctl Unit Unit := M.bindC (b1 pyRange1 (mlist [.ok p_a])) () fun v23_ds => (forC (X := Unit) (S := Unit) (fun v2_w (v1_j : Unit) => M.bindC (b1 mkLst (mlist [b1 mkTup (mlist [.ok v2_w, .ok p_a, .ok p_b]), b1 mkTup (mlist [.ok v2_w, .ok p_a, .ok p_c]), b1 mkTup (mlist [.ok v2_w, .ok p_b, .ok p_c]), b1 mkTup (mlist [.ok p_a, .ok p_b, .ok p_c])])) () fun v3_four => M.bindC (b1 isB (b2 (memD false) (b2s pyJoin (.ok (.str "")) (lcM (b1 pyItems (.ok v3_four)) (fun v4_t => un3 .stk v4_t fun v5_p v6_q v7_r => elM (.ok true) (b2 pyIx (.ok p_letters) (b1 m_position (mlist [.ok v5_p, .ok v6_q, .ok v7_r])))))) (b1 mkTup (mlist [.ok (.str "LRLR"), .ok (.str "RLRL")])))) () fun c => if c = true then (M.bindC (b1 mkTup (mlist [.ok v2_w, .ok p_a, .ok p_b, .ok p_c])) () Ctl.ret) else .nx ()) v23_ds ()).bind fun (v1_j : Unit) => M.bindC (b1 pyRange1 (mlist [.ok p_a])) () fun v22_ds => (forC (X := Unit) (S := Unit) (fun v9_w (v8_j : Unit) => M.bindC (b1 pyRange1 (mlist [.ok v9_w])) () fun v21_ds => (forC (X := Unit) (S := Unit) (fun v11_v (v10_j : Unit) => M.bindC (b1 pyItems (b1 mkTup (mlist [.ok v11_v, .ok v9_w, .ok p_a, .ok p_b, .ok p_c]))) () fun v20_ds => (forC (X := Unit) (S := Unit) (fun v13_x (v12_j : Unit) => M.bindC (lcM (b1 pyItems (b1 mkTup (mlist [.ok v11_v, .ok v9_w, .ok p_a, .ok p_b, .ok p_c]))) (fun v14_post => elM (b1 isB (b2 pyNe (.ok v14_post) (.ok v13_x))) (.ok v14_post))) () fun v15_t => un4 .stk v15_t fun v16_p v17_q v18_r v19_s => M.bindC (b1 pyTruth (b1 m_breaks_five (mlist [.ok p_letters, .ok v13_x, .ok v16_p, .ok v17_q, .ok v18_r, .ok v19_s]))) () fun c => if c = true then (M.bindC (b1 mkTup (mlist [.ok v13_x, .ok v16_p, .ok v17_q, .ok v18_r, .ok v19_s])) () Ctl.ret) else .nx ()) v20_ds ()).bind fun (v12_j : Unit) => .nx ()) v21_ds ()).bind fun (v10_j : Unit) => .nx ()) v22_ds ()).bind fun (v8_j : Unit) => M.bindC (.ok .non) () Ctl.ret
def m_last_breach : List D → M D := ar4 c_last_breach
def c_breach (p_letters p_posts : D) : Ctl Unit Unit := M.bindC (b1 pyItems (b1 m_threes (mlist [.ok p_posts]))) () fun v7_ds => (forC (X := Unit) (S := Unit) (fun v2_t (v1_j : Unit) => un3 .stk v2_t fun v3_a v4_b v5_c => M.bindC (b1 m_last_breach (mlist [.ok p_letters, .ok v3_a, .ok v4_b, .ok v5_c])) () fun v6_found => M.bindC (b1 isB (b2 pyIsNot (.ok v6_found) (.ok .non))) () fun c => if c = true then (M.bindC (.ok v6_found) () Ctl.ret) else .nx ()) v7_ds ()).bind fun (v1_j : Unit) => M.bindC (.ok .non) () Ctl.ret
def m_breach : List D → M D := ar2 c_breach
def c_Table___init (p_letters : D) : Ctl Unit FsD := M.bindC (orM (notM (b1 pyTruth (b1 (isiD [("NoneType", false), ("bool", false), ("int", false), ("str", true), ("list", false), ("tuple", false)] [(1, false)]) (.ok p_letters)))) (orM (b1 isB (b1 (kdIn [(1, 3), (4, 4), (10, 5), (20, 6), (35, 7), (56, 8)] true) (b1 pyLen (mlist [.ok p_letters])))) (b1 isB (b2 pyNe (b2s pyStripC (.ok p_letters) (.ok (.str "LR"))) (.ok (.str "")))))) () fun c => if c = true then (.exn ⟨1, []⟩ ()) else M.bindC (b1 (kdGet [(1, 3), (4, 4), (10, 5), (20, 6), (35, 7), (56, 8)]) (b1 pyLen (mlist [.ok p_letters]))) () fun v1_posts => M.bindC (b1 m_breach (mlist [.ok p_letters, .ok v1_posts])) () fun v2_found => M.bindC (b1 isB (b2 pyIsNot (.ok v2_found) (.ok .non))) () fun c => if c = true then (M.bindC (mlist [.ok v2_found]) () (exnF 3 "posts" ())) else M.bindC (fsetM "letters" ([]) (.ok p_letters)) () fun v3_self => M.bindC (fsetM "posts" v3_self (.ok v1_posts)) () fun v4_self => .nx v4_self
def m_Table___init : List D → M FsD := arF1 c_Table___init
def c_l_pool (p_script : D) : Ctl Unit Unit := M.bindC (b1 mkLst (mlist [])) () fun v1_pool_here => M.bindC (b1 pyItems (.ok p_script)) () fun v17_ds => (forC (X := Unit) (S := D) (fun v3_cell (v2_j : D) => M.bindC (.ok v3_cell) () fun v4_rest => (M.bindC (b1 isB (b2 pyGe (.ok v3_cell) (b2 pyPow (.ok (.int 10)) (.ok (.int 18))))) () fun c => if c = true then (M.bindC (b1 pyRange1 (mlist [.ok (.int 60)])) () fun v11_ds => (forC (X := Unit) (S := D × D) (fun v7_k (v6_j : D × D) => (M.bindC (b1 isB (b2 pyGt (.ok v6_j.2) (.ok (.int 0)))) () fun c => if c = true then (M.bindC (appM v6_j.1 (b2 pyMod (b1 pyInt (mlist [.ok v6_j.2])) (.ok (.int 1000000)))) () fun v9_pool_here => M.bindC (b2 pyDiv (.ok v6_j.2) (.ok (.int 1000000))) () fun v10_rest => .nx (v9_pool_here, v10_rest)) else (.nx (v6_j.1, v6_j.2)) : Ctl Unit (D × D)).bind fun (v8_j : D × D) => .nx (v8_j.1, v8_j.2)) v11_ds (v2_j, v4_rest)).bind fun (v6_j : D × D) => .nx v6_j.1) else (M.bindC (b1 pyRange1 (mlist [.ok (.int 10)])) () fun v16_ds => (forC (X := Unit) (S := D) (fun v13_k (v12_j : D) => M.bindC (b2 pyMod (b1 pyInt (mlist [b2 pyAdd (b2 pyAdd (b2 pyMul (.ok v3_cell) (.ok (.int 48271))) (b2 pyMul (.ok v13_k) (.ok (.int 69621)))) (.ok (.int 11))])) (.ok (.int 2147483647))) () fun v14_mixed => M.bindC (appM v12_j (b2 pyDiv (b2 pyMod (b1 pyInt (mlist [b2 pyAdd (b2 pyMul (.ok v14_mixed) (.ok (.int 40692))) (.ok v13_k)])) (.ok (.int 2147483399))) (.ok (.int 97)))) () fun v15_pool_here => .nx v15_pool_here) v16_ds v2_j).bind fun (v12_j : D) => .nx v12_j) : Ctl Unit D).bind fun (v5_j : D) => .nx v5_j) v17_ds v1_pool_here).bind fun (v2_j : D) => M.bindC (.ok v2_j) () Ctl.ret
def m_l_pool : List D → M D := ar1 c_l_pool
def c_l_draw (p_pool_here p_k p_many : D) : Ctl Unit Unit := M.bindC (b1 isB (b2 pyLt (.ok p_k) (b1 pyLen (mlist [.ok p_pool_here])))) () fun c => if c = true then (M.bindC (b2 pyMod (b1 pyInt (mlist [b2 pyIx (.ok p_pool_here) (.ok p_k)])) (.ok p_many)) () Ctl.ret) else M.bindC (.ok (.int 0)) () Ctl.ret
def m_l_draw : List D → M D := ar3 c_l_draw
def c_l_cross (p_p p_q p_r : D) : Ctl Unit Unit := M.bindC (b2 pySub (b2 pyMul (b2 pySub (b2 pyIx (.ok p_q) (.ok (.int 0))) (b2 pyIx (.ok p_p) (.ok (.int 0)))) (b2 pySub (b2 pyIx (.ok p_r) (.ok (.int 1))) (b2 pyIx (.ok p_p) (.ok (.int 1))))) (b2 pyMul (b2 pySub (b2 pyIx (.ok p_q) (.ok (.int 1))) (b2 pyIx (.ok p_p) (.ok (.int 1)))) (b2 pySub (b2 pyIx (.ok p_r) (.ok (.int 0))) (b2 pyIx (.ok p_p) (.ok (.int 0)))))) () Ctl.ret
def m_l_cross : List D → M D := ar3 c_l_cross
def c_l_free (p_places_here p_spot : D) : Ctl Unit Unit := M.bindC (b1 pyRange1 (mlist [b1 pyLen (mlist [.ok p_places_here])])) () fun v6_ds => (forC (X := Unit) (S := Unit) (fun v2_k (v1_j : Unit) => M.bindC (b1 isB (b2 pyEq (b2 pyIx (.ok p_places_here) (.ok v2_k)) (.ok p_spot))) () fun c => if c = true then (M.bindC (.ok (.bl false)) () Ctl.ret) else M.bindC (b1 pyRange1 (mlist [.ok v2_k])) () fun v5_ds => (forC (X := Unit) (S := Unit) (fun v4_j (v3_j : Unit) => M.bindC (b1 isB (b2 pyEq (b1 m_l_cross (mlist [b2 pyIx (.ok p_places_here) (.ok v4_j), b2 pyIx (.ok p_places_here) (.ok v2_k), .ok p_spot])) (.ok (.int 0)))) () fun c => if c = true then (M.bindC (.ok (.bl false)) () Ctl.ret) else .nx ()) v5_ds ()).bind fun (v3_j : Unit) => .nx ()) v6_ds ()).bind fun (v1_j : Unit) => M.bindC (.ok (.bl true)) () Ctl.ret
def m_l_free : List D → M D := ar2 c_l_free
def c_l_turns (p_places_here : D) : Ctl Unit Unit := M.bindC (.ok (.dct [])) () fun v1_turns_here => M.bindC (b1 pyRange1 (mlist [b1 pyLen (mlist [.ok p_places_here])])) () fun v13_ds => (forC (X := Unit) (S := D) (fun v3_a (v2_j : D) => M.bindC (b1 pyRange1 (mlist [b1 pyLen (mlist [.ok p_places_here])])) () fun v12_ds => (forC (X := Unit) (S := D) (fun v5_b (v4_j : D) => M.bindC (b1 pyRange1 (mlist [b1 pyLen (mlist [.ok p_places_here])])) () fun v11_ds => (forC (X := Unit) (S := D) (fun v7_c (v6_j : D) => (M.bindC (andM (b1 isB (b2 pyNe (.ok v3_a) (.ok v5_b))) (andM (b1 isB (b2 pyNe (.ok v3_a) (.ok v7_c))) (b1 isB (b2 pyNe (.ok v5_b) (.ok v7_c))))) () fun c => if c = true then (M.bindC (b1 m_l_cross (mlist [b2 pyIx (.ok p_places_here) (.ok v3_a), b2 pyIx (.ok p_places_here) (.ok v5_b), b2 pyIx (.ok p_places_here) (.ok v7_c)])) () fun v9_size => M.bindC (setM v6_j (b2 pySub (b1 pyInt (mlist [b2 pyGt (.ok v9_size) (.ok (.int 0))])) (b1 pyInt (mlist [b2 pyLt (.ok v9_size) (.ok (.int 0))]))) (b1 mkTup (mlist [.ok v3_a, .ok v5_b, .ok v7_c]))) () fun v10_turns_here => .nx v10_turns_here) else (.nx v6_j) : Ctl Unit D).bind fun (v8_j : D) => .nx v8_j) v11_ds v4_j).bind fun (v6_j : D) => .nx v6_j) v12_ds v2_j).bind fun (v4_j : D) => .nx v4_j) v13_ds v1_turns_here).bind fun (v2_j : D) => M.bindC (.ok v2_j) () Ctl.ret
def m_l_turns : List D → M D := ar1 c_l_turns
def c_l_letters (p_turns_here p_posts : D) : Ctl Unit Unit := M.bindC (.ok (.str "")) () fun v1_letters_here => M.bindC (b1 pyRange1 (mlist [.ok p_posts])) () fun v11_ds => (forC (X := Unit) (S := D) (fun v3_c (v2_j : D) => M.bindC (b1 pyRange1 (mlist [.ok v3_c])) () fun v10_ds => (forC (X := Unit) (S := D) (fun v5_b (v4_j : D) => M.bindC (b1 pyRange1 (mlist [.ok v5_b])) () fun v9_ds => (forC (X := Unit) (S := D) (fun v7_a (v6_j : D) => M.bindC (b2 pyAdd (.ok v6_j) (b2 pyIx (b1 mkLst (mlist [.ok (.str "R"), .ok (.str "L")])) (b1 pyInt (mlist [b2 pyEq (b2 pyIx (.ok p_turns_here) (b1 mkTup (mlist [.ok v7_a, .ok v5_b, .ok v3_c]))) (.ok (.int 1))])))) () fun v8_letters_here => .nx v8_letters_here) v9_ds v4_j).bind fun (v6_j : D) => .nx v6_j) v10_ds v2_j).bind fun (v4_j : D) => .nx v4_j) v11_ds v1_letters_here).bind fun (v2_j : D) => M.bindC (.ok v2_j) () Ctl.ret
def m_l_letters : List D → M D := ar2 c_l_letters
end Mir
namespace Mir
abbrev Pt := Int × Int
def crs (p q r : Pt) : Int := (q.1 - p.1) * (r.2 - p.2) - (q.2 - p.2) * (r.1 - p.1)
theorem crs_swap (p q r : Pt) : crs q p r = - crs p q r := by unfold crs; grind
theorem crs_swap2 (p q r : Pt) : crs p r q = - crs p q r := by unfold crs; grind
theorem crs4 (w a b c : Pt) : crs w a b - crs w a c + crs w b c - crs a b c = 0 := by unfold crs; grind
theorem crs5 (x a b c d : Pt) : crs x a b * crs x c d - crs x a c * crs x b d + crs x a d * crs x b c = 0 := by unfold crs; grind
theorem par3 {A B C j k m : Int} (hj : A * (j * j) - B * j + C = 0) (hk : A * (k * k) - B * k + C = 0) (hm : A * (m * m) - B * m + C = 0) (h1 : j ≠ k) (h2 : j ≠ m) (h3 : k ≠ m) : A = 0 ∧ B = 0 := by
  have e1 : (j - k) * (A * (j + k) - B) = 0 := by grind
  have e2 : (j - m) * (A * (j + m) - B) = 0 := by grind
  have e3 : A * (j + k) - B = 0 := by
    rcases Int.mul_eq_zero.mp e1 with h | h
    · omega
    · exact h
  have e4 : A * (j + m) - B = 0 := by
    rcases Int.mul_eq_zero.mp e2 with h | h
    · omega
    · exact h
  have e5 : A * (k - m) = 0 := by grind
  rcases Int.mul_eq_zero.mp e5 with h | h
  · refine ⟨h, ?_⟩
    subst h
    omega
  · omega
section
variable {α : Type}
theorem countP_or (p q : α → Bool) : ∀ l : List α, l.countP (fun x => p x || q x) ≤ l.countP p + l.countP q
  | [] => by simp
  | x :: l => by
    have ih := countP_or p q l
    simp only [List.countP_cons]
    cases p x <;> cases q x <;> simp <;> omega
theorem countP_le2 {l : List α} (hn : l.Nodup) {p : α → Bool} (h : ∀ a b c, p a = true → p b = true → p c = true → a ≠ b → a ≠ c → b ≠ c → False) : l.countP p ≤ 2 := by
  rw [List.countP_eq_length_filter]
  have hs : (l.filter p).Nodup := hn.sublist List.filter_sublist
  have hp : ∀ x ∈ l.filter p, p x = true := fun x hx => (List.mem_filter.mp hx).2
  match hf : l.filter p, hs, hp with
  | [], _, _ => simp
  | [_], _, _ => simp
  | [_, _], _, _ => simp
  | a :: b :: c :: r, hs, hp =>
    exfalso
    simp only [List.nodup_cons, List.mem_cons] at hs
    refine h a b c (hp a (by simp)) (hp b (by simp)) (hp c (by simp)) (fun e => hs.1 (.inl e)) (fun e => hs.1 (.inr (.inl e))) (fun e => hs.2.1 (.inl e))
theorem countP_le1 {l : List α} (hn : l.Nodup) {p : α → Bool} (h : ∀ a b, p a = true → p b = true → a ≠ b → False) : l.countP p ≤ 1 := by
  rw [List.countP_eq_length_filter]
  have hs : (l.filter p).Nodup := hn.sublist List.filter_sublist
  have hp : ∀ x ∈ l.filter p, p x = true := fun x hx => (List.mem_filter.mp hx).2
  match hf : l.filter p, hs, hp with
  | [], _, _ => simp
  | [_], _, _ => simp
  | a :: b :: r, hs, hp =>
    exfalso
    simp only [List.nodup_cons, List.mem_cons] at hs
    exact h a b (hp a (by simp)) (hp b (by simp)) (fun e => hs.1 (.inl e))
theorem countP_any {l : List α} (p : Nat → α → Bool) (c : Nat → Nat) : ∀ m : Nat, (∀ k, k < m → l.countP (p k) ≤ c k) → l.countP (fun x => (List.range m).any fun k => p k x) ≤ ((List.range m).map c).sum
  | 0, _ => by simp
  | m + 1, h => by
    have ih := countP_any p c m fun k hk => h k (by omega)
    have hm := h m (by omega)
    have e : (fun x => (List.range (m + 1)).any fun k => p k x) = fun x => ((List.range m).any fun k => p k x) || p m x := by
      funext x
      rw [List.range_succ, List.any_append]
      simp
    rw [e, List.range_succ, List.map_append, List.sum_append]
    have := countP_or (fun x => (List.range m).any fun k => p k x) (p m) l
    simp
    omega
end
def gp (l : List Pt) (k : Nat) : Pt := l.getD k (0, 0)
def badJ (l : List Pt) (s : Pt) (k j : Nat) : Bool := decide (crs (gp l j) (gp l k) s = 0)
def badK (l : List Pt) (s : Pt) (k : Nat) : Bool := decide (gp l k = s) || (List.range k).any (badJ l s k)
def freeB (l : List Pt) (s : Pt) : Bool := !(List.range l.length).any (badK l s)
def spotAt (x y : Int) (j : Nat) : Pt := (x + (j : Int), y + (j : Int) * (j : Int))
structure GP (l : List Pt) : Prop where
  ne : ∀ i k, i < k → k < l.length → gp l i ≠ gp l k
  cr : ∀ i j k, i < j → j < k → k < l.length → crs (gp l i) (gp l j) (gp l k) ≠ 0
theorem spot_count1 (p : Pt) (x y : Int) : (List.range 60).countP (fun j => decide (p = spotAt x y j)) ≤ 1 := by
  refine countP_le1 List.nodup_range fun a b ha hb hab => ?_
  have ha := of_decide_eq_true ha
  have hb := of_decide_eq_true hb
  rw [ha] at hb
  unfold spotAt at hb
  simp only [Prod.mk.injEq] at hb
  omega
theorem spot_count2 (p q : Pt) (x y : Int) (hpq : p ≠ q) : (List.range 60).countP (fun j => decide (crs p q (spotAt x y j) = 0)) ≤ 2 := by
  refine countP_le2 List.nodup_range fun a b c ha hb hc hab hac hbc => ?_
  have ha := of_decide_eq_true ha
  have hb := of_decide_eq_true hb
  have hc := of_decide_eq_true hc
  unfold crs spotAt at ha hb hc
  dsimp only at ha hb hc
  have := par3 (A := q.1 - p.1) (B := q.2 - p.2) (C := (q.1 - p.1) * (y - p.2) - (q.2 - p.2) * (x - p.1)) (j := a) (k := b) (m := c) (by grind) (by grind) (by grind) (by omega) (by omega) (by omega)
  apply hpq
  obtain ⟨p1, p2⟩ := p
  obtain ⟨q1, q2⟩ := q
  simp only [Prod.mk.injEq] at *
  omega
theorem sum_const : ∀ n c : Nat, ((List.range n).map fun _ => c).sum = n * c
  | 0, c => by simp
  | n + 1, c => by rw [List.range_succ, List.map_append, List.sum_append, sum_const n c, Nat.succ_mul]; simp
theorem exists_free (l : List Pt) (g : GP l) (hl : l.length ≤ 7) (x y : Int) : ∃ j, j < 60 ∧ freeB l (spotAt x y j) = true := by
  have h1 : (List.range 60).countP (fun j => (List.range l.length).any fun k => badK l (spotAt x y j) k) ≤ ((List.range l.length).map fun k => 1 + k * 2).sum := by
    refine countP_any (fun k j => badK l (spotAt x y j) k) (fun k => 1 + k * 2) _ fun k hk => ?_
    refine Nat.le_trans (countP_or (fun j => decide (gp l k = spotAt x y j)) (fun j => (List.range k).any (badJ l (spotAt x y j) k)) _) ?_
    refine Nat.add_le_add (spot_count1 _ x y) ?_
    rw [← sum_const]
    refine countP_any (fun i j => badJ l (spotAt x y j) k i) (fun _ => 2) k fun i hi => ?_
    exact spot_count2 _ _ x y (g.ne i k hi hk)
  have h2 : ∀ n, n ≤ 7 → ((List.range n).map fun k => 1 + k * 2).sum ≤ 49 := by decide
  have h3 := h2 _ hl
  by_cases h : ∃ j, j < 60 ∧ freeB l (spotAt x y j) = true
  · exact h
  · exfalso
    have : (List.range 60).countP (fun j => (List.range l.length).any fun k => badK l (spotAt x y j) k) = (List.range 60).length := by
      rw [List.countP_eq_length]
      intro j hj
      cases hb : (List.range l.length).any fun k => badK l (spotAt x y j) k with
      | true => rfl
      | false =>
        exfalso
        refine h ⟨j, List.mem_range.mp hj, ?_⟩
        unfold freeB
        rw [show (List.range l.length).any (badK l (spotAt x y j)) = false from hb]
        rfl
    rw [this, List.length_range] at h1
    omega
theorem gp_lt {l : List Pt} {s : Pt} {k : Nat} (h : k < l.length) : gp (l ++ [s]) k = gp l k := by
  unfold gp
  rw [List.getD_eq_getElem?_getD, List.getElem?_append_left h, ← List.getD_eq_getElem?_getD]
theorem gp_last {l : List Pt} {s : Pt} : gp (l ++ [s]) l.length = s := by
  unfold gp
  rw [List.getD_eq_getElem?_getD, List.getElem?_append_right (Nat.le_refl _)]
  simp
theorem GP.nil : GP [] := ⟨fun _ _ _ h => by simp at h, fun _ _ _ _ _ h => by simp at h⟩
theorem freeB_iff {l : List Pt} {s : Pt} (h : freeB l s = true) : ∀ k, k < l.length → gp l k ≠ s ∧ ∀ j, j < k → crs (gp l j) (gp l k) s ≠ 0 := by
  intro k hk
  unfold freeB at h
  have h1 : badK l s k = false := by
    cases hb : badK l s k with
    | false => rfl
    | true =>
      have : (List.range l.length).any (badK l s) = true := List.any_eq_true.mpr ⟨k, List.mem_range.mpr hk, hb⟩
      rw [this] at h
      cases h
  unfold badK at h1
  rw [Bool.or_eq_false_iff] at h1
  refine ⟨of_decide_eq_false h1.1, fun j hj => ?_⟩
  have h2 := h1.2
  cases hb : badJ l s k j with
  | false => exact of_decide_eq_false hb
  | true =>
    have : (List.range k).any (badJ l s k) = true := List.any_eq_true.mpr ⟨j, List.mem_range.mpr hj, hb⟩
    rw [this] at h2
    cases h2
theorem GP.snoc {l : List Pt} {s : Pt} (g : GP l) (h : freeB l s = true) : GP (l ++ [s]) := by
  have hf := freeB_iff h
  refine ⟨fun i k hi hk => ?_, fun i j k hi hj hk => ?_⟩
  · rw [List.length_append, List.length_singleton] at hk
    rcases Nat.lt_or_ge k l.length with hk' | hk'
    · rw [gp_lt hk', gp_lt (Nat.lt_trans hi hk')]
      exact g.ne i k hi hk'
    · have : k = l.length := by omega
      subst this
      rw [gp_last, gp_lt hi]
      exact (hf i hi).1
  · rw [List.length_append, List.length_singleton] at hk
    rcases Nat.lt_or_ge k l.length with hk' | hk'
    · rw [gp_lt hk', gp_lt (Nat.lt_trans hj hk'), gp_lt (Nat.lt_trans hi (Nat.lt_trans hj hk'))]
      exact g.cr i j k hi hj hk'
    · have : k = l.length := by omega
      subst this
      rw [gp_last, gp_lt hj, gp_lt (Nat.lt_trans hi hj)]
      exact (hf j hj).2 i hi
def sgn (z : Int) : Int := (if 0 < z then 1 else 0) - (if z < 0 then 1 else 0)
theorem sgn_neg (z : Int) : sgn (-z) = - sgn z := by unfold sgn; split <;> split <;> split <;> split <;> omega
def ptT (l : List Pt) (a b c : Nat) : Int := sgn (crs (gp l a) (gp l b) (gp l c))
theorem ptT_swap (l : List Pt) (a b c : Nat) : ptT l b a c = - ptT l a b c := by unfold ptT; rw [crs_swap, sgn_neg]
theorem ptT_swap2 (l : List Pt) (a b c : Nat) : ptT l a c b = - ptT l a b c := by unfold ptT; rw [crs_swap2, sgn_neg]
theorem sgn_cases (z : Int) : (0 < z ∧ sgn z = 1) ∨ (z < 0 ∧ sgn z = -1) ∨ (z = 0 ∧ sgn z = 0) := by unfold sgn; split <;> split <;> omega
theorem GP.all {l : List Pt} (g : GP l) {a b c : Nat} (ha : a < l.length) (hb : b < l.length) (hc : c < l.length) (hab : a ≠ b) (hac : a ≠ c) (hbc : b ≠ c) : crs (gp l a) (gp l b) (gp l c) ≠ 0 := by
  have k := g.cr
  rcases Nat.lt_or_gt_of_ne hab with h1 | h1 <;> rcases Nat.lt_or_gt_of_ne hac with h2 | h2 <;> rcases Nat.lt_or_gt_of_ne hbc with h3 | h3 <;> try omega
  · exact k a b c h1 h3 hc
  · have := k a c b h2 h3 hb; rw [crs_swap2]; omega
  · have := k c a b h2 h1 hb; rw [crs_swap2, crs_swap]; omega
  · have := k b a c h1 h2 hc; rw [crs_swap]; omega
  · have := k b c a h3 h2 ha; rw [crs_swap, crs_swap2]; omega
  · have := k c b a h3 h1 ha; rw [crs_swap, crs_swap2, crs_swap]; omega
theorem GP.turn {l : List Pt} (g : GP l) {a b c : Nat} (ha : a < l.length) (hb : b < l.length) (hc : c < l.length) (hab : a ≠ b) (hac : a ≠ c) (hbc : b ≠ c) : ptT l a b c = 1 ∨ ptT l a b c = -1 := by
  have := g.all ha hb hc hab hac hbc
  rcases sgn_cases (crs (gp l a) (gp l b) (gp l c)) with h | h | h
  · exact .inl h.2
  · exact .inr h.2
  · exact absurd h.1 this
def tn (f : Nat → Nat → Nat → Int) (a b c : Nat) : Int :=
  if a < b then (if b < c then f a b c else if a < c then - f a c b else f c a b)
  else (if a < c then - f b a c else if b < c then f b c a else - f c b a)
def brk5 (t : Nat → Nat → Nat → Int) (x a b c d : Nat) : Prop := t x a b * t x c d = - t x a c * t x b d ∧ - t x a c * t x b d = t x a d * t x b c ∧ t x a d * t x b c ≠ 0
theorem sgn_mul (x y : Int) : sgn (x * y) = sgn x * sgn y := by
  rcases sgn_cases x with ⟨h, e⟩ | ⟨h, e⟩ | ⟨h, e⟩ <;> rcases sgn_cases y with ⟨i, f⟩ | ⟨i, f⟩ | ⟨i, f⟩ <;> rw [e, f]
  · have := Int.mul_pos h i
    rcases sgn_cases (x * y) with q | q | q <;> omega
  · have := Int.mul_neg_of_pos_of_neg h i
    rcases sgn_cases (x * y) with q | q | q <;> omega
  · subst i; simp [sgn]
  · have := Int.mul_neg_of_neg_of_pos h i
    rcases sgn_cases (x * y) with q | q | q <;> omega
  · have := Int.mul_pos_of_neg_of_neg h i
    rcases sgn_cases (x * y) with q | q | q <;> omega
  · subst i; simp [sgn]
  all_goals (subst h; simp [sgn])
theorem pt_r5 {l : List Pt} {x a b c d : Nat} : ¬ brk5 (ptT l) x a b c d := by
  intro h
  obtain ⟨h1, h2, h3⟩ := h
  have e := crs5 (gp l x) (gp l a) (gp l b) (gp l c) (gp l d)
  unfold ptT at h1 h2 h3
  rw [Int.neg_mul, ← sgn_mul, ← sgn_mul, ← sgn_neg] at h1
  rw [Int.neg_mul, ← sgn_mul, ← sgn_mul, ← sgn_neg] at h2
  rw [← sgn_mul] at h3
  generalize crs (gp l x) (gp l a) (gp l b) * crs (gp l x) (gp l c) (gp l d) = u at *
  generalize crs (gp l x) (gp l a) (gp l c) * crs (gp l x) (gp l b) (gp l d) = v at *
  generalize crs (gp l x) (gp l a) (gp l d) * crs (gp l x) (gp l b) (gp l c) = w at *
  rcases sgn_cases u with h | h | h <;> rcases sgn_cases (-v) with i | i | i <;> rcases sgn_cases w with j | j | j <;> omega
end Mir
namespace Mir
open PySem PySem.Spec L2
def intsD (l : List Int) : D := .lst (l.map D.int)
@[simp] theorem mkLst_nil : mkLst [] = .ok (.lst []) := id rfl
theorem app_ints {l : List Int} {z : Int} (h : l.length < 1000000) : appM (intsD l) (.ok (.int z)) = .ok (intsD (l ++ [z])) := by
  unfold intsD
  show (if (l.map D.int).length < sizeLine then M.ok (D.lst (l.map D.int ++ [D.int z])) else .stk) = _
  rw [if_pos (by rw [List.length_map]; exact sz_big h), List.map_append]
  rfl
theorem pow_ii {a b : Int} (h : 0 ≤ b ∧ b ≤ 1000000 ∧ a.natAbs < 2 ^ 64) : pyPow (.int a) (.int b) = .ok (.int (a ^ b.toNat)) := if_pos h
abbrev PoolInv (n : Nat) (d : D) : Prop := ∃ l : List Int, d = intsD l ∧ l.length ≤ n
theorem pool_ok (ns : List Int) (hn : ns.length ≤ 63) : ∃ l : List Int, m_l_pool [.scr ns] = .ok (intsD l) ∧ l.length ≤ 3780 := by
  have main : RetIs (c_l_pool (.scr ns)) (PoolInv 3780) := by
    unfold c_l_pool
    rw [show b1 mkLst (mlist []) = .ok (.lst []) from rfl, bindC_ok, show b1 pyItems (.ok (D.scr ns)) = .ok (ns.map D.int) from rfl, bindC_ok]
    refine NxIs.ret (loop_nx (fun i d => PoolInv (60 * i) d) ⟨[], rfl, Nat.zero_le _⟩ ?_) ?_
    · rintro j d s hj ⟨l, rfl, hl⟩
      rw [List.getElem?_map] at hj
      obtain ⟨z, hz, rfl⟩ := Option.map_eq_some_iff.mp hj
      have hj' : j < ns.length := (List.getElem?_eq_some_iff.mp hz).1
      rw [bindC_ok, b2_ok, pow_ii (by decide), b2_ok, ge_ii, b1_ok, isB_bl, bindC_ok]
      by_cases hc : (10 : Int) ^ (18 : Int).toNat ≤ z
      · rw [if_pos (by simpa using hc)]
        refine NxIs.nx (P := PoolInv (60 * (j + 1))) ?_ (fun s h => .mk h)
        rw [show b1 pyRange1 (mlist [.ok (D.int 60)]) = .ok (rangeD 0 60) from rfl, bindC_ok]
        refine NxIs.nx (loopR_nx (fun i (p : D × D) => PoolInv (60 * j + i) p.1 ∧ ∃ r, p.2 = .int r) ⟨⟨l, rfl, by omega⟩, z, rfl⟩ ?_) ?_
        · rintro i ⟨p, q⟩ hi ⟨⟨l1, rfl, hl1⟩, r, rfl⟩
          refine NxIs.nx (P := fun p => PoolInv (60 * j + (i + 1)) p.1 ∧ ∃ r, p.2 = .int r) ?_ (fun s h => .mk h)
          rw [b2_ok, gt_ii, b1_ok, isB_bl, bindC_ok]
          by_cases hr : 0 < r
          · rw [if_pos (by simpa using hr)]
            rw [mlist_cons, mlist_nil, bind_ok, b1_ok, int_i, b2_ok, mod_ii (by decide), app_ints (by omega), bindC_ok, b2_ok, div_ii (by decide), bindC_ok]
            exact .mk ⟨⟨_, rfl, by rw [List.length_append, List.length_singleton]; omega⟩, _, rfl⟩
          · rw [if_neg (by simpa using hr)]
            exact .mk ⟨⟨l1, rfl, by omega⟩, r, rfl⟩
        · rintro ⟨p, q⟩ ⟨h, _⟩
          refine .mk ?_
          rw [Nat.mul_add]
          exact h
      · rw [if_neg (by simpa using hc)]
        refine NxIs.nx (P := PoolInv (60 * (j + 1))) ?_ (fun s h => .mk h)
        rw [show b1 pyRange1 (mlist [.ok (D.int 10)]) = .ok (rangeD 0 10) from rfl, bindC_ok]
        refine NxIs.nx (loopR_nx (fun i p => PoolInv (60 * j + i) p) ⟨l, rfl, by omega⟩ ?_) ?_
        · rintro i p hi ⟨l1, rfl, hl1⟩
          rw [b2_ok, mul_ii (.inr (by decide)), b2_ok, mul_ii (.inr (by decide)), b2_ok, add_ii, b2_ok, add_ii, mlist_cons, mlist_nil, bind_ok, b1_ok, int_i, b2_ok, mod_ii (by decide), bindC_ok]
          rw [b2_ok, mul_ii (.inr (by decide)), b2_ok, add_ii, mlist_cons, mlist_nil, bind_ok, b1_ok, int_i, b2_ok, mod_ii (by decide), b2_ok, div_ii (by decide), app_ints (by omega), bindC_ok]
          exact .mk ⟨_, rfl, by rw [List.length_append, List.length_singleton]; omega⟩
        · rintro p ⟨l1, rfl, h⟩
          exact .mk ⟨l1, rfl, by omega⟩
    · rintro s ⟨l, rfl, hl⟩
      rw [List.length_map] at hl
      exact .mk ⟨l, rfl, by omega⟩
  obtain ⟨d, e, l, rfl, hl⟩ := main
  refine ⟨l, ?_, hl⟩
  show (c_l_pool (.scr ns)).toM = _
  rw [e]
  rfl
theorem len_ints {l : List Int} : pyLen [intsD l] = .ok (.int l.length) := by
  show M.ok (D.int (l.map D.int).length) = _
  rw [List.length_map]
theorem atI_nat {α : Type} {xs : List α} {i : Nat} {x : α} (h : xs[i]? = some x) : atI xs (i : Int) = some x := by
  have hl : i < xs.length := (List.getElem?_eq_some_iff.mp h).1
  unfold atI ixN
  rw [if_pos (by omega), if_pos (by omega)]
  exact h
theorem ix_ints {l : List Int} {k : Nat} (h : k < l.length) : pyIx (intsD l) (.int k) = .ok (.int l[k]) := by
  show ofOpt (atI (l.map D.int) (k : Int)) = _
  rw [atI_nat (x := D.int l[k]) (by rw [List.getElem?_map, List.getElem?_eq_getElem h]; rfl)]
  rfl
def drawn (l : List Int) (k : Nat) (many : Int) : Int := match l[k]? with
  | some z => z % many
  | none => 0
theorem drawn_nonneg {l : List Int} {k : Nat} {many : Int} (h : 0 < many) : 0 ≤ drawn l k many := by
  unfold drawn
  split
  · exact Int.emod_nonneg _ (by omega)
  · exact Int.le_refl _
theorem drawn_lt {l : List Int} {k : Nat} {many : Int} (h : 0 < many) : drawn l k many < many := by
  unfold drawn
  split
  · exact Int.emod_lt_of_pos _ h
  · exact h
theorem draw_ok (l : List Int) (k : Nat) (many : Int) (h : 0 < many) : m_l_draw [intsD l, .int k, .int many] = .ok (.int (drawn l k many)) := by
  show (c_l_draw (intsD l) (.int k) (.int many)).toM = _
  unfold c_l_draw
  rw [mlist_cons, mlist_nil, bind_ok, b1_ok, len_ints, b2_ok, lt_ii, b1_ok, isB_bl, bindC_ok]
  by_cases hk : k < l.length
  · rw [if_pos (by simpa using hk), b2_ok, ix_ints hk, mlist_cons, mlist_nil, bind_ok, b1_ok, int_i, b2_ok, mod_ii h, bindC_ok, toM_ret]
    unfold drawn
    rw [List.getElem?_eq_getElem hk]
  · rw [if_neg (by simpa using hk), bindC_ok, toM_ret]
    unfold drawn
    rw [List.getElem?_eq_none (by omega)]
def ptD (p : Pt) : D := .tup [.int p.1, .int p.2]
def ptsD (l : List Pt) : D := .lst (l.map ptD)
def Bd (p : Pt) : Prop := 0 ≤ p.1 ∧ p.1 ≤ 100000 ∧ 0 ≤ p.2 ∧ p.2 ≤ 100000
theorem ix_pt0 {p : Pt} : pyIx (ptD p) (.int 0) = .ok (.int p.1) := rfl
theorem ix_pt1 {p : Pt} : pyIx (ptD p) (.int 1) = .ok (.int p.2) := rfl
theorem cross_ok {p q r : Pt} (hp : Bd p) (hq : Bd q) (hr : Bd r) : m_l_cross [ptD p, ptD q, ptD r] = .ok (.int (crs p q r)) := by
  obtain ⟨p1, p2, p3, p4⟩ := hp
  obtain ⟨q1, q2, q3, q4⟩ := hq
  show (c_l_cross (ptD p) (ptD q) (ptD r)).toM = _
  unfold c_l_cross
  simp only [b2_ok, ix_pt0, ix_pt1, sub_ii]
  rw [mul_ii (.inl (by omega)), mul_ii (.inl (by omega)), b2_ok, sub_ii, bindC_ok, toM_ret]
  rfl
theorem shaped_pt {x y : Int} : SeqAt.shaped (.tuple [.int x, .int y]) = true := by
  unfold SeqAt.shaped
  simp [PyData.canLay0, PyData.depth, PyData.canLayAll0, PyData.depthAll]
theorem toPy_pt {p : Pt} : toPy (D.tup [.int p.1, .int p.2]) = some (.tuple [.int p.1, .int p.2]) := by simp [toPy, toPys]
theorem eq_pt {p q : Pt} : pyEq (ptD p) (ptD q) = .ok (.bl (decide (p = q))) := by
  unfold pyEq eqD ptD
  rw [if_neg (fun z => by cases z), toPy_pt, toPy_pt]
  dsimp only
  rw [if_pos ⟨shaped_pt, shaped_pt⟩, b1_ok]
  have : PyData.eqv (.tuple [.int p.1, .int p.2]) (.tuple [.int q.1, .int q.2]) = decide (p = q) := by
    obtain ⟨a, b⟩ := p
    obtain ⟨c, d⟩ := q
    simp [PyData.eqv, PyData.eqvAll, Prod.ext_iff]
    rw [Bool.eq_iff_iff]
    simp
  rw [this]
theorem loop_any {f : D → Unit → Ctl Unit Unit} {r : D} : ∀ {ds : List D} (bad : Nat → Bool), (∀ (j : Nat) d, ds[j]? = some d → f d () = if bad j = true then .ret r else .nx ()) → forC f ds () = if (List.range ds.length).any bad = true then .ret r else .nx ()
  | [], bad, _ => rfl
  | d :: ds, bad, h => by
    show (f d ()).bind (forC f ds) = _
    rw [h 0 d rfl]
    have ih := loop_any (f := f) (r := r) (ds := ds) (fun j => bad (j + 1)) fun j d hj => h (j + 1) d (by simpa using hj)
    have e : (List.range (d :: ds).length).any bad = (bad 0 || (List.range ds.length).any fun j => bad (j + 1)) := by
      rw [List.length_cons, List.range_succ_eq_map, List.any_cons, List.any_map]
      rfl
    rw [e]
    cases hb : bad 0 with
    | true => simp
    | false =>
      simp only [Bool.false_eq_true, if_false, Bool.false_or, ctl_nx]
      exact ih
theorem loopR_any {f : D → Unit → Ctl Unit Unit} {r : D} {n : Nat} (bad : Nat → Bool) (h : ∀ j : Nat, j < n → f (.int j) () = if bad j = true then .ret r else .nx ()) : forC f (rangeD 0 n) () = if (List.range n).any bad = true then .ret r else .nx () := by
  have := loop_any (f := f) (r := r) (ds := rangeD 0 n) bad fun j d hj => by
    obtain ⟨hl, rfl⟩ := range_at hj
    rw [Int.zero_add]
    exact h j hl
  rw [range_len] at this
  exact this
theorem len_pts {l : List Pt} : pyLen [ptsD l] = .ok (.int l.length) := by
  show M.ok (D.int (l.map ptD).length) = _
  rw [List.length_map]
theorem ix_pts {l : List Pt} {k : Nat} (h : k < l.length) : pyIx (ptsD l) (.int k) = .ok (ptD l[k]) := by
  show ofOpt (atI (l.map ptD) (k : Int)) = _
  rw [atI_nat (x := ptD l[k]) (by rw [List.getElem?_map, List.getElem?_eq_getElem h]; rfl)]
  rfl
theorem gp_at {l : List Pt} {k : Nat} (h : k < l.length) : gp l k = l[k] := by unfold gp; rw [List.getD_eq_getElem?_getD, List.getElem?_eq_getElem h]; rfl
theorem ix_gp {l : List Pt} {k : Nat} (h : k < l.length) : pyIx (ptsD l) (.int k) = .ok (ptD (gp l k)) := by rw [ix_pts h, gp_at h]
theorem bd_gp {l : List Pt} (hl : ∀ p ∈ l, Bd p) {k : Nat} (h : k < l.length) : Bd (gp l k) := by rw [gp_at h]; exact hl _ (List.getElem_mem h)
theorem free_ok {l : List Pt} {s : Pt} (hl : ∀ p ∈ l, Bd p) (hs : Bd s) (hn : l.length < 1000) : m_l_free [ptsD l, ptD s] = .ok (.bl (freeB l s)) := by
  show (c_l_free (ptsD l) (ptD s)).toM = _
  unfold c_l_free
  rw [mlist_cons, mlist_nil, bind_ok, b1_ok, len_pts, mlist_cons, mlist_nil, bind_ok, b1_ok, range_i (by omega), bindC_ok, Int.toNat_natCast]
  rw [loopR_any (r := .bl false) (badK l s) fun k hk => ?_]
  · unfold freeB
    cases (List.range l.length).any (badK l s) <;> rfl
  · rw [b2_ok, ix_gp hk, b2_ok, eq_pt, b1_ok, isB_bl, bindC_ok]
    unfold badK
    by_cases he : gp l k = s
    · simp [he]
    · simp only [he, decide_false, Bool.false_eq_true, if_false, Bool.false_or]
      rw [mlist_cons, mlist_nil, bind_ok, b1_ok, range_i (by omega), bindC_ok, Int.toNat_natCast]
      rw [loopR_any (r := .bl false) (badJ l s k) fun j hj => ?_]
      · cases (List.range k).any (badJ l s k) <;> rfl
      · have hj' : j < l.length := Nat.lt_trans hj hk
        simp only [b2_ok, ix_gp hj', ix_gp hk]
        rw [mlist_cons, mlist_cons, mlist_cons, mlist_nil, bind_ok, bind_ok, bind_ok, b1_ok, cross_ok (bd_gp hl hj') (bd_gp hl hk) hs, b2_ok, eq_ii, b1_ok, isB_bl, bindC_ok, bindC_ok]
        rfl
theorem app_pts {l : List Pt} {p : Pt} (h : l.length < 1000000) : appM (ptsD l) (.ok (ptD p)) = .ok (ptsD (l ++ [p])) := by
  unfold ptsD
  show (if (l.map ptD).length < sizeLine then M.ok (D.lst (l.map ptD ++ [ptD p])) else .stk) = _
  rw [if_pos (by rw [List.length_map]; exact sz_big h), List.map_append]
  rfl
end Mir
namespace Mir
open PySem PySem.Spec L2
def strD (l : List Nat) : D := .str ⟨l.toArray⟩
theorem str_len {l : List Nat} : Str.length ⟨l.toArray⟩ = l.length := by unfold Str.length; simp
theorem add_strD {l m : List Nat} (h : l.length + m.length < 1000000) : pyAdd (strD l) (strD m) = .ok (strD (l ++ m)) := by
  show (if Str.length ⟨l.toArray⟩ + Str.length ⟨m.toArray⟩ ≤ sizeLine then M.ok (D.str (⟨l.toArray⟩ ++ ⟨m.toArray⟩)) else .stk) = _
  rw [str_len, str_len, if_pos (Nat.le_of_lt (sz_big h))]
  unfold strD
  show M.ok (D.str ⟨l.toArray ++ m.toArray⟩) = _
  rw [List.append_toArray]
theorem strD_nil : D.str "" = strD [] := by unfold strD; congr 1
theorem strD_L : D.str "L" = strD [76] := by unfold strD; congr 1
theorem strD_R : D.str "R" = strD [82] := by unfold strD; congr 1
abbrev T3 := Nat × Nat × Nat
def thr (n : Nat) : List T3 := (List.range n).flatMap fun c => (List.range c).flatMap fun b => (List.range b).map fun a => (a, b, c)
def ltr (z : Int) : Nat := if z = 1 then 76 else if z = 0 then 63 else 82
def lw (n : Nat) (f : Nat → Nat → Nat → Int) : List Nat := (thr n).map fun t => ltr (f t.1 t.2.1 t.2.2)
def pos (a b c : Nat) : Nat := c * (c - 1) * (c - 2) / 6 + b * (b - 1) / 2 + a
theorem thr_len : ∀ n, n ≤ 8 → (thr n).length ≤ 56 := by decide +kernel
theorem lw_len {n : Nat} {f : Nat → Nat → Nat → Int} (h : n ≤ 8) : (lw n f).length ≤ 56 := by unfold lw; rw [List.length_map]; exact thr_len n h
theorem mem_thr {n : Nat} {t : T3} : t ∈ thr n ↔ t.1 < t.2.1 ∧ t.2.1 < t.2.2 ∧ t.2.2 < n := by
  obtain ⟨a, b, c⟩ := t
  unfold thr
  simp only [List.mem_flatMap, List.mem_range, List.mem_map, Prod.mk.injEq]
  constructor
  · rintro ⟨c', hc, b', hb, a', ha, rfl, rfl, rfl⟩
    exact ⟨ha, hb, hc⟩
  · rintro ⟨h1, h2, h3⟩
    exact ⟨c, h3, b, h2, a, h1, rfl, rfl, rfl⟩
theorem thr_pos_dec : ((List.range 9).all fun n => (List.range n).all fun c => (List.range c).all fun b => (List.range b).all fun a => decide ((thr n)[pos a b c]? = some (a, b, c))) = true := by decide +kernel
theorem thr_pos {n a b c : Nat} (hn : n ≤ 8) (hab : a < b) (hbc : b < c) (hc : c < n) : (thr n)[pos a b c]? = some (a, b, c) := by
  have h := thr_pos_dec
  simp only [List.all_eq_true, List.mem_range, decide_eq_true_eq] at h
  exact h n (by omega) c hc b hbc a hab
theorem lw_pos {n a b c : Nat} {f : Nat → Nat → Nat → Int} (hn : n ≤ 8) (hab : a < b) (hbc : b < c) (hc : c < n) : (lw n f)[pos a b c]? = some (ltr (f a b c)) := by
  unfold lw
  rw [List.getElem?_map, thr_pos hn hab hbc hc]
  rfl
def key3 (a b c : Nat) : List Key := [.inl (a : Int), .inl (b : Int), .inl (c : Int)]
theorem key3_inj {a b c a' b' c' : Nat} : key3 a b c = key3 a' b' c' ↔ a = a' ∧ b = b' ∧ c = c' := by
  unfold key3
  simp only [List.cons.injEq, Sum.inl.injEq, and_true]
  omega
section
variable (n : Nat) (f : Nat → Nat → Nat → Int)
def tE (a b c : Nat) : List (List Key × D) := if a ≠ b ∧ a ≠ c ∧ b ≠ c then [(key3 a b c, .int (f a b c))] else []
def tC (a b c : Nat) : List (List Key × D) := (List.range c).flatMap (tE f a b)
def tB (a b : Nat) : List (List Key × D) := (List.range b).flatMap fun b => tC f a b n
def tA (a : Nat) : List (List Key × D) := (List.range a).flatMap fun a => tB n f a n
def turnsK : List (List Key × D) := tA n f n
end
section
variable {n : Nat} {f : Nat → Nat → Nat → Int}
theorem mem_tE {a b c : Nat} {kv : List Key × D} : kv ∈ tE f a b c ↔ a ≠ b ∧ a ≠ c ∧ b ≠ c ∧ kv = (key3 a b c, .int (f a b c)) := by
  unfold tE
  split
  · rename_i h; simp [h]
  · rename_i h
    simp only [List.not_mem_nil, false_iff]
    exact fun q => h ⟨q.1, q.2.1, q.2.2.1⟩
theorem mem_tC {a b c : Nat} {kv : List Key × D} : kv ∈ tC f a b c ↔ ∃ c', c' < c ∧ a ≠ b ∧ a ≠ c' ∧ b ≠ c' ∧ kv = (key3 a b c', .int (f a b c')) := by
  unfold tC
  simp only [List.mem_flatMap, List.mem_range, mem_tE]
theorem mem_tB {a b : Nat} {kv : List Key × D} : kv ∈ tB n f a b ↔ ∃ b' c', b' < b ∧ c' < n ∧ a ≠ b' ∧ a ≠ c' ∧ b' ≠ c' ∧ kv = (key3 a b' c', .int (f a b' c')) := by
  unfold tB
  simp only [List.mem_flatMap, List.mem_range, mem_tC]
  constructor
  · rintro ⟨b', h, c', h'⟩; exact ⟨b', c', h, h'⟩
  · rintro ⟨b', c', h, h'⟩; exact ⟨b', h, c', h'⟩
theorem mem_tA {a : Nat} {kv : List Key × D} : kv ∈ tA n f a ↔ ∃ a' b' c', a' < a ∧ b' < n ∧ c' < n ∧ a' ≠ b' ∧ a' ≠ c' ∧ b' ≠ c' ∧ kv = (key3 a' b' c', .int (f a' b' c')) := by
  unfold tA
  simp only [List.mem_flatMap, List.mem_range, mem_tB]
  constructor
  · rintro ⟨a', h, b', c', h'⟩; exact ⟨a', b', c', h, h'⟩
  · rintro ⟨a', b', c', h, h'⟩; exact ⟨a', h, b', c', h'⟩
theorem len_flat {α β : Type} {g : α → List β} {k : Nat} : ∀ {l : List α}, (∀ x ∈ l, (g x).length ≤ k) → (l.flatMap g).length ≤ l.length * k
  | [], _ => by simp
  | x :: l, h => by
    have := len_flat (g := g) (l := l) fun y hy => h y (by simp [hy])
    have := h x (by simp)
    rw [List.flatMap_cons, List.length_append, List.length_cons, Nat.succ_mul]
    omega
theorem len_tC {a b c : Nat} (hc : c ≤ 8) : (tC f a b c).length ≤ 8 := by
  have := len_flat (g := tE f a b) (k := 1) (l := List.range c) fun x _ => by unfold tE; split <;> simp
  unfold tC
  rw [List.length_range] at this
  omega
theorem len_tB {a b : Nat} (hn : n ≤ 8) (hb : b ≤ 8) : (tB n f a b).length ≤ 64 := by
  have := len_flat (g := fun b => tC f a b n) (k := 8) (l := List.range b) fun x _ => len_tC hn
  unfold tB
  rw [List.length_range] at this
  omega
theorem len_tA {a : Nat} (hn : n ≤ 8) (ha : a ≤ 8) : (tA n f a).length ≤ 512 := by
  have := len_flat (g := fun a => tB n f a n) (k := 64) (l := List.range a) fun x _ => len_tB hn hn
  unfold tA
  rw [List.length_range] at this
  omega
end
theorem put_new {κ : Type} [DecidableEq κ] {kvs : List (κ × D)} {k : κ} {v : D} (h : ∀ kv ∈ kvs, kv.1 ≠ k) : putD kvs k v = kvs ++ [(k, v)] := by
  unfold putD
  rw [if_neg]
  rw [List.any_eq_true]
  rintro ⟨kv, hm, hk⟩
  exact h kv hm (of_decide_eq_true hk)
theorem valD_of {κ : Type} [DecidableEq κ] {k : κ} {v : D} : ∀ {kvs : List (κ × D)}, (k, v) ∈ kvs → (∀ kv ∈ kvs, kv.1 = k → kv.2 = v) → valD kvs k = some v
  | [], h, _ => by simp at h
  | kv :: kvs, h, u => by
    unfold valD
    rw [List.find?_cons]
    by_cases hk : kv.1 = k
    · simp only [hk, decide_true]
      rw [← u kv (by simp) hk]
      rfl
    · simp only [hk, decide_false]
      refine valD_of ?_ fun x hx => u x (by simp [hx])
      rcases List.mem_cons.mp h with h | h
      · exact absurd (by rw [← h]) hk
      · exact h
theorem tup_keys {a b c : Nat} : keysOf [D.int a, D.int b, D.int c] = some (key3 a b c) := rfl
theorem ix_turns {n a b c : Nat} {f : Nat → Nat → Nat → Int} (ha : a < n) (hb : b < n) (hc : c < n) (hab : a ≠ b) (hac : a ≠ c) (hbc : b ≠ c) : pyIx (.dct (turnsK n f)) (.tup [.int a, .int b, .int c]) = .ok (.int (f a b c)) := by
  show (ofOpt (keysOf [D.int a, D.int b, D.int c])).bind (fun k => ofOpt (valD (turnsK n f) k)) = _
  rw [tup_keys]
  show ofOpt (valD (turnsK n f) (key3 a b c)) = _
  have hm : (key3 a b c, D.int (f a b c)) ∈ turnsK n f := mem_tA.mpr ⟨a, b, c, ha, hb, hc, hab, hac, hbc, rfl⟩
  rw [valD_of hm]
  · rfl
  · intro kv hm hk
    obtain ⟨a', b', c', _, _, _, _, _, _, rfl⟩ := mem_tA.mp hm
    obtain ⟨rfl, rfl, rfl⟩ := key3_inj.mp hk
    rfl
theorem set_turn {kvs : List (List Key × D)} {a b c : Nat} {z : Int} (hl : kvs.length < 1000000) (h : ∀ kv ∈ kvs, kv.1 ≠ key3 a b c) : setM (.dct kvs) (.ok (.int z)) (mkTup [.int a, .int b, .int c]) = .ok (.dct (kvs ++ [(key3 a b c, .int z)])) := by
  rw [tup_ok (by simp)]
  show (ofOpt (keysOf [D.int a, D.int b, D.int c])).bind (fun k => if kvs.length < sizeLine then M.ok (D.dct (putD kvs k (.int z))) else .stk) = _
  rw [tup_keys]
  show (if kvs.length < sizeLine then M.ok (D.dct (putD kvs (key3 a b c) (.int z))) else .stk) = _
  rw [if_pos (sz_big hl), put_new h]
theorem flat_succ {α : Type} (g : Nat → List α) (k : Nat) : (List.range (k + 1)).flatMap g = (List.range k).flatMap g ++ g k := by rw [List.range_succ, List.flatMap_append]; simp
theorem turns_ok {ps : List Pt} (hb : ∀ p ∈ ps, Bd p) (hn : ps.length ≤ 8) : m_l_turns [ptsD ps] = .ok (.dct (turnsK ps.length (ptT ps))) := by
  show (c_l_turns (ptsD ps)).toM = _
  unfold c_l_turns
  have hr : b1 pyRange1 (mlist [b1 pyLen (mlist [.ok (ptsD ps)])]) = .ok (rangeD 0 ps.length) := by
    rw [mlist_cons, mlist_nil, bind_ok, b1_ok, len_pts, mlist_cons, mlist_nil, bind_ok, b1_ok, range_i (by omega), Int.toNat_natCast]
  rw [bindC_ok, hr, bindC_ok]
  generalize hN : ps.length = n at *
  have h0 : D.dct [] = (fun a => D.dct (tA n (ptT ps) a)) 0 := rfl
  rw [h0, loopR_st (fun a => D.dct (tA n (ptT ps) a)) fun a ha => ?_]
  · rfl
  · rw [bindC_ok]
    have h1 : D.dct (tA n (ptT ps) a) = (fun b => D.dct (tA n (ptT ps) a ++ tB n (ptT ps) a b)) 0 := by
      show _ = D.dct (tA n (ptT ps) a ++ []); rw [List.append_nil]
    rw [h1, loopR_st (fun b => D.dct (tA n (ptT ps) a ++ tB n (ptT ps) a b)) fun b hb' => ?_]
    · rw [ctl_nx]
      unfold tA
      rw [flat_succ]
    · rw [bindC_ok]
      have h2 : D.dct (tA n (ptT ps) a ++ tB n (ptT ps) a b) = (fun c => D.dct (tA n (ptT ps) a ++ tB n (ptT ps) a b ++ tC (ptT ps) a b c)) 0 := by
        show _ = D.dct (tA n (ptT ps) a ++ tB n (ptT ps) a b ++ []); rw [List.append_nil]
      rw [h2, loopR_st (fun c => D.dct (tA n (ptT ps) a ++ tB n (ptT ps) a b ++ tC (ptT ps) a b c)) fun c hc => ?_]
      · rw [ctl_nx]
        unfold tB
        rw [flat_succ, List.append_assoc]
      · simp only [b2_ok, ne_ii, b1_ok, isB_bl]
        have e : tC (ptT ps) a b (c + 1) = tC (ptT ps) a b c ++ tE (ptT ps) a b c := flat_succ _ _
        rw [e]
        unfold tE
        by_cases hab : a = b
        · have : ((a : Int) = b) := by omega
          simp [this, hab]
        by_cases hac : a = c
        · have h1 : ((a : Int) = c) := by omega
          have h2 : ¬((a : Int) = b) := by omega
          simp [h1, h2, hac]
        by_cases hbc : b = c
        · have h1 : ((b : Int) = c) := by omega
          have h2 : ¬((a : Int) = b) := by omega
          have h3 : ¬((a : Int) = c) := by omega
          simp [h1, h2, h3, hbc]
        have h1 : ¬((a : Int) = b) := by omega
        have h2 : ¬((a : Int) = c) := by omega
        have h3 : ¬((b : Int) = c) := by omega
        rw [if_pos ⟨hab, hac, hbc⟩]
        simp only [h1, h2, h3, decide_false, Bool.not_false, andM_ok, if_true, bindC_ok]
        rw [ix_gp (by omega), ix_gp (by omega), ix_gp (by omega), mlist_cons, mlist_cons, mlist_cons, mlist_nil, bind_ok, bind_ok, bind_ok, b1_ok, cross_ok (bd_gp hb (by omega)) (bd_gp hb (by omega)) (bd_gp hb (by omega)), bindC_ok]
        simp only [gt_ii, lt_ii, mlist_cons, mlist_nil, bind_ok, b1_ok, int_b, b2_ok, sub_ii]
        rw [set_turn]
        · rw [bindC_ok, ctl_nx, List.append_assoc, List.append_assoc, List.append_assoc]
          unfold ptT sgn
          simp only [decide_eq_true_eq]
        · rw [List.length_append, List.length_append]
          have := len_tA (f := ptT ps) (n := n) (a := a) (by omega) (by omega)
          have := len_tB (f := ptT ps) (n := n) (a := a) (b := b) (by omega) (by omega)
          have := len_tC (f := ptT ps) (a := a) (b := b) (c := c) (by omega)
          omega
        · intro kv hm hk
          rcases List.mem_append.mp hm with hm | hm
          · rcases List.mem_append.mp hm with hm | hm
            · obtain ⟨a', b', c', h, _, _, _, _, _, rfl⟩ := mem_tA.mp hm
              have := key3_inj.mp hk
              omega
            · obtain ⟨b', c', h, _, _, _, _, rfl⟩ := mem_tB.mp hm
              have := key3_inj.mp hk
              omega
          · obtain ⟨c', h, _, _, _, rfl⟩ := mem_tC.mp hm
            have := key3_inj.mp hk
            omega
end Mir
namespace Mir
open PySem PySem.Spec L2
theorem eq_strD {l m : List Nat} : pyEq (strD l) (strD m) = .ok (.bl (decide (l = m))) := by
  show M.ok (D.bl (decide ((⟨l.toArray⟩ : Str) = ⟨m.toArray⟩))) = _
  congr 2
  simp
theorem ne_strD {l m : List Nat} : pyNe (strD l) (strD m) = .ok (.bl (!decide (l = m))) := by
  show M.ok (D.bl (!decide ((⟨l.toArray⟩ : Str) = ⟨m.toArray⟩))) = _
  congr 3
  simp
theorem strD_Q : D.str "?" = strD [63] := by unfold strD; congr 1
theorem len_strD {l : List Nat} (h : l.length < 1000000) : pyLen [strD l] = .ok (.int l.length) := by
  show (if Str.length ⟨l.toArray⟩ ≤ sizeLine then M.ok (D.int (Str.length ⟨l.toArray⟩)) else .stk) = _
  rw [str_len, if_pos (Nat.le_of_lt (sz_big h))]
theorem ix_strD {l : List Nat} {k x : Nat} (h : l.length < 1000000) (hx : l[k]? = some x) : pyIx (strD l) (.int k) = .ok (strD [x]) := by
  show (if Str.length ⟨l.toArray⟩ ≤ sizeLine then (ofOpt (atI (Str.mk l.toArray).cps.toList k)).bind (fun c => M.ok (D.str ⟨#[c]⟩)) else .stk) = _
  rw [str_len, if_pos (Nat.le_of_lt (sz_big h))]
  rw [show (Str.mk l.toArray).cps.toList = l from List.toList_toArray, atI_nat hx]
  rfl
theorem strsOf_map (l : List (List Nat)) : strsOf (l.map strD) = some (l.map fun x => (⟨x.toArray⟩ : Str)) := by
  induction l with
  | nil => rfl
  | cons a l ih => show (strsOf (l.map strD)).map _ = _; rw [ih]; rfl
theorem join_flat : ∀ l : List (List Nat), Str.join ⟨([] : List Nat).toArray⟩ (l.map fun x => (⟨x.toArray⟩ : Str)) = ⟨l.flatten.toArray⟩
  | [] => rfl
  | [a] => by show (⟨a.toArray⟩ : Str) = _; simp
  | a :: b :: l => by
    show (⟨a.toArray⟩ ++ ⟨([] : List Nat).toArray⟩ ++ Str.join ⟨([] : List Nat).toArray⟩ ((b :: l).map fun x => (⟨x.toArray⟩ : Str)) : Str) = _
    rw [join_flat (b :: l)]
    show (⟨a.toArray ++ #[] ++ (b :: l).flatten.toArray⟩ : Str) = _
    simp
theorem join_strD {l : List (List Nat)} (h : (l.map List.length).sum < 1000000) : pyJoin (.str "") (.lst (l.map strD)) = .ok (strD l.flatten) := by
  rw [strD_nil]
  show (ofOpt (strsOf (l.map strD))).bind (fun ys => if (ys.map (·.length)).sum + ys.length * Str.length ⟨([] : List Nat).toArray⟩ ≤ 16777216 then M.ok (D.str (Txt.join ⟨([] : List Nat).toArray⟩ ys)) else .stk) = _
  rw [strsOf_map]
  show (if ((l.map fun x => (⟨x.toArray⟩ : Str)).map (·.length)).sum + (l.map fun x => (⟨x.toArray⟩ : Str)).length * Str.length ⟨([] : List Nat).toArray⟩ ≤ 16777216 then M.ok (D.str (Txt.join ⟨([] : List Nat).toArray⟩ (l.map fun x => (⟨x.toArray⟩ : Str)))) else .stk) = _
  have e1 : ((l.map fun x => (⟨x.toArray⟩ : Str)).map (·.length)).sum = (l.map List.length).sum := by
    rw [List.map_map]
    exact congrArg List.sum (List.map_congr_left fun x _ => str_len)
  rw [e1, str_len, if_pos (by simp only [List.length_nil, Nat.mul_zero]; omega)]
  unfold Txt.join
  rw [StrLaws.glued_eq_join, join_flat]
  rfl
theorem join_signs {l : List Nat} (h : l.length < 1000000) : pyJoin (.str "") (.lst (l.map fun x => strD [x])) = .ok (strD l) := by
  have e : (l.map fun x => strD [x]) = (l.map fun x => [x]).map strD := by rw [List.map_map]; rfl
  have e2 : ∀ l : List Nat, (l.map fun x => [x]).flatten = l := by
    intro l
    induction l with
    | nil => rfl
    | cons a l ih => rw [List.map_cons, List.flatten_cons, ih]; rfl
  have e3 : ∀ l : List Nat, ((l.map fun x => [x]).map List.length).sum = l.length := by
    intro l
    induction l with
    | nil => rfl
    | cons a l ih => rw [List.map_cons, List.map_cons, List.sum_cons, ih, List.length_cons, Nat.add_comm]; rfl
  rw [e, join_strD (by rw [e3]; exact h), e2]
theorem letters_ok {n : Nat} {f : Nat → Nat → Nat → Int} (hn : n ≤ 8) (hf : ∀ a b c, a < b → b < c → c < n → f a b c ≠ 0) : m_l_letters [.dct (turnsK n f), .int n] = .ok (strD (lw n f)) := by
  show (c_l_letters (.dct (turnsK n f)) (.int n)).toM = _
  unfold c_l_letters
  rw [bindC_ok, mlist_cons, mlist_nil, bind_ok, b1_ok, range_i (by omega), bindC_ok, Int.toNat_natCast]
  let A (b c : Nat) (a : Nat) : List Nat := (List.range a).map fun a => ltr (f a b c)
  let B (c : Nat) (b : Nat) : List Nat := (List.range b).flatMap fun b => A b c b
  let C (c : Nat) : List Nat := (List.range c).flatMap fun c => B c c
  have hA : ∀ b c a, (A b c a).length = a := fun b c a => by show ((List.range a).map _).length = a; simp
  have hB : ∀ b c, b ≤ 8 → (B c b).length ≤ 64 := fun b c hb => by
    have := len_flat (g := fun b => A b c b) (k := 8) (l := List.range b) fun x hx => by rw [hA]; have := List.mem_range.mp hx; omega
    rw [List.length_range] at this
    show ((List.range b).flatMap fun b => A b c b).length ≤ 64
    omega
  have hC : ∀ c, c ≤ 8 → (C c).length ≤ 512 := fun c hc => by
    have := len_flat (g := fun c => B c c) (k := 64) (l := List.range c) fun x hx => hB _ _ (by have := List.mem_range.mp hx; omega)
    rw [List.length_range] at this
    show ((List.range c).flatMap fun c => B c c).length ≤ 512
    omega
  have hw : C n = lw n f := by
    show (List.range n).flatMap _ = _
    unfold lw thr
    rw [List.map_flatMap]
    congr 1
    funext c
    rw [List.map_flatMap]
    show (List.range c).flatMap _ = _
    congr 1
    funext b
    rw [List.map_map]
    rfl
  rw [strD_nil, show strD [] = (fun c => strD (C c)) 0 from rfl, loopR_st (fun c => strD (C c)) fun c hc => ?_]
  · rw [ctl_nx, bindC_ok, toM_ret, hw]
  · rw [mlist_cons, mlist_nil, bind_ok, b1_ok, range_i (by omega), bindC_ok, Int.toNat_natCast]
    have h1 : strD (C c) = (fun b => strD (C c ++ B c b)) 0 := by show _ = strD (C c ++ []); rw [List.append_nil]
    rw [h1, loopR_st (fun b => strD (C c ++ B c b)) fun b hb => ?_]
    · rw [ctl_nx]
      show Ctl.nx (strD (C c ++ B c c)) = Ctl.nx (strD ((List.range (c + 1)).flatMap _))
      rw [flat_succ]
    · rw [mlist_cons, mlist_nil, bind_ok, b1_ok, range_i (by omega), bindC_ok, Int.toNat_natCast]
      have h2 : strD (C c ++ B c b) = (fun a => strD (C c ++ B c b ++ A b c a)) 0 := by show _ = strD (C c ++ B c b ++ []); rw [List.append_nil]
      rw [h2, loopR_st (fun a => strD (C c ++ B c b ++ A b c a)) fun a ha => ?_]
      · rw [ctl_nx]
        show Ctl.nx (strD (C c ++ B c b ++ A b c b)) = Ctl.nx (strD (C c ++ (List.range (b + 1)).flatMap _))
        rw [flat_succ, List.append_assoc]
      · rw [tup3, b2_ok, ix_turns (by omega) (by omega) (by omega) (by omega) (by omega) (by omega), b2_ok, eq_ii]
        simp only [mlist_cons, mlist_nil, bind_ok, b1_ok, int_b]
        have e : b2 pyIx (mkLst [.str "R", .str "L"]) (.ok (.int (if decide (f a b c = 1) = true then 1 else 0))) = .ok (strD [ltr (f a b c)]) := by
          rw [strD_L, strD_R]
          unfold ltr
          have := hf a b c ha hb hc
          by_cases h : f a b c = 1
          · simp only [h, decide_true, if_true]; rfl
          · simp only [h, this, decide_false, if_false, Bool.false_eq_true]; rfl
        rw [e, b2_ok, add_strD, bindC_ok]
        · show Ctl.nx (strD (C c ++ B c b ++ A b c a ++ [ltr (f a b c)])) = Ctl.nx (strD (C c ++ B c b ++ (List.range (a + 1)).map fun a => ltr (f a b c)))
          rw [List.range_succ, List.map_append, List.append_assoc]
          rfl
        · rw [List.length_append, List.length_append, hA]
          have := hB b c (by omega)
          have := hC c (by omega)
          simp only [List.length_singleton]
          omega
theorem position_ok {a b c : Nat} (hb : 1 ≤ b) (hc : 2 ≤ c) (h : b < 1000000 ∧ c < 1000000) : m_position [.int a, .int b, .int c] = .ok (.int (pos a b c)) := by
  show (c_position (.int a) (.int b) (.int c)).toM = _
  unfold c_position
  simp only [b2_ok, sub_ii]
  rw [mul_ii (.inl (by omega)), b2_ok, mul_ii (.inr (by omega)), b2_ok, div_ii (by decide), mul_ii (.inl (by omega)), b2_ok, div_ii (by decide), b2_ok, add_ii, b2_ok, add_ii, bindC_ok, toM_ret]
  unfold pos
  congr 2
  have e1 : ((c : Int) - 1) = ((c - 1 : Nat) : Int) := by omega
  have e2 : ((c : Int) - 2) = ((c - 2 : Nat) : Int) := by omega
  have e3 : ((b : Int) - 1) = ((b - 1 : Nat) : Int) := by omega
  rw [e1, e2, e3]
  simp only [Int.natCast_add, Int.natCast_ediv, Int.natCast_mul]
  rfl
def RdAt (w : List Nat) (f : Nat → Nat → Nat → Int) (a b c : Nat) : Prop := w[pos a b c]? = some (ltr (f a b c)) ∧ (f a b c = 1 ∨ f a b c = 0 ∨ f a b c = -1)
theorem lw_rd {n a b c : Nat} {f : Nat → Nat → Nat → Int} (hn : n ≤ 8) (h : f a b c = 1 ∨ f a b c = 0 ∨ f a b c = -1) (hab : a < b) (hbc : b < c) (hc : c < n) : RdAt (lw n f) f a b c := ⟨lw_pos hn hab hbc hc, h⟩
theorem turn_end {w : List Nat} {f : Nat → Nat → Nat → Int} {x y z : Nat} {s : Int} (hw : w.length < 1000000) (hxy : x < y) (hyz : y < z) (hz : z < 1000000) (r : RdAt w f x y z) :
    ((M.bindC (b2 pyIx (.ok (strD w)) (m_position [.int x, .int y, .int z])) () fun l => M.bindC (b1 isB (pyEq l (.str "?"))) () fun c => if c = true then Ctl.ret (.int 0) else M.bindC (ifM (b1 isB (pyEq l (.str "L"))) (.ok (.int s)) (.ok (.int (-s)))) () Ctl.ret) : Ctl Unit Unit).toM = .ok (.int (s * f x y z)) := by
  rw [position_ok (by omega) (by omega) (by omega), b2_ok, ix_strD hw r.1, bindC_ok, strD_Q, strD_L, eq_strD, b1_ok, isB_bl, bindC_ok, eq_strD, b1_ok, isB_bl, ifM_ok]
  rcases r.2 with h | h | h <;> rw [h] <;> unfold ltr <;> simp
theorem turn_ok {w : List Nat} {f : Nat → Nat → Nat → Int} {a b c : Nat} (hw : w.length < 1000000) (hm : a < 1000000 ∧ b < 1000000 ∧ c < 1000000) (hab : a ≠ b) (hac : a ≠ c) (hbc : b ≠ c)
    (r : ∀ x y z, x < y → y < z → (x = a ∨ x = b ∨ x = c) → (y = a ∨ y = b ∨ y = c) → (z = a ∨ z = b ∨ z = c) → RdAt w f x y z) : m_turn_of [strD w, .int a, .int b, .int c] = .ok (.int (tn f a b c)) := by
  show (c_turn_of (strD w) (.int a) (.int b) (.int c)).toM = _
  unfold c_turn_of
  obtain ⟨h1, h2, h3⟩ := hm
  unfold tn
  rcases Nat.lt_or_gt_of_ne hab with hab | hab <;> rcases Nat.lt_or_gt_of_ne hbc with hbc | hbc <;> rcases Nat.lt_or_gt_of_ne hac with hac | hac <;> try omega
  · simp (disch := omega) only [bindC_ok, b2_ok, gt_t, gt_f, b1_ok, isB_bl, if_true, if_false, Bool.false_eq_true, unL3_at, mlist_cons, mlist_nil, bind_ok, ctl_nx, neg_i, if_pos, if_neg]
    refine (turn_end hw hab hbc h3 (r _ _ _ hab hbc (.inl rfl) (.inr (.inl rfl)) (.inr (.inr rfl)))).trans ?_
    congr 2
    omega
  · simp (disch := omega) only [bindC_ok, b2_ok, gt_t, gt_f, b1_ok, isB_bl, if_true, if_false, Bool.false_eq_true, unL3_at, mlist_cons, mlist_nil, bind_ok, ctl_nx, neg_i, if_pos, if_neg]
    refine (turn_end hw hac hbc h2 (r _ _ _ hac hbc (.inl rfl) (.inr (.inr rfl)) (.inr (.inl rfl)))).trans ?_
    congr 2
    omega
  · simp (disch := omega) only [bindC_ok, b2_ok, gt_t, gt_f, b1_ok, isB_bl, if_true, if_false, Bool.false_eq_true, unL3_at, mlist_cons, mlist_nil, bind_ok, ctl_nx, neg_i, if_pos, if_neg]
    refine (turn_end hw hac hab h2 (r _ _ _ hac hab (.inr (.inr rfl)) (.inl rfl) (.inr (.inl rfl)))).trans ?_
    congr 2
    omega
  · simp (disch := omega) only [bindC_ok, b2_ok, gt_t, gt_f, b1_ok, isB_bl, if_true, if_false, Bool.false_eq_true, unL3_at, mlist_cons, mlist_nil, bind_ok, ctl_nx, neg_i, if_pos, if_neg]
    refine (turn_end hw hab hac h3 (r _ _ _ hab hac (.inr (.inl rfl)) (.inl rfl) (.inr (.inr rfl)))).trans ?_
    congr 2
    omega
  · simp (disch := omega) only [bindC_ok, b2_ok, gt_t, gt_f, b1_ok, isB_bl, if_true, if_false, Bool.false_eq_true, unL3_at, mlist_cons, mlist_nil, bind_ok, ctl_nx, neg_i, if_pos, if_neg]
    refine (turn_end hw hbc hac h1 (r _ _ _ hbc hac (.inr (.inl rfl)) (.inr (.inr rfl)) (.inl rfl))).trans ?_
    congr 2
    omega
  · simp (disch := omega) only [bindC_ok, b2_ok, gt_t, gt_f, b1_ok, isB_bl, if_true, if_false, Bool.false_eq_true, unL3_at, mlist_cons, mlist_nil, bind_ok, ctl_nx, neg_i, if_pos, if_neg]
    refine (turn_end hw hbc hab h1 (r _ _ _ hbc hab (.inr (.inr rfl)) (.inr (.inl rfl)) (.inl rfl))).trans ?_
    congr 2
    omega
theorem tn_cs {f : Nat → Nat → Nat → Int} {a b c : Nat} (hab : a ≠ b) (hac : a ≠ c) (hbc : b ≠ c)
    (r : ∀ x y z, x < y → y < z → (x = a ∨ x = b ∨ x = c) → (y = a ∨ y = b ∨ y = c) → (z = a ∨ z = b ∨ z = c) → (f x y z = 1 ∨ f x y z = 0 ∨ f x y z = -1)) : tn f a b c = 1 ∨ tn f a b c = 0 ∨ tn f a b c = -1 := by
  unfold tn
  rcases Nat.lt_or_gt_of_ne hab with h1 | h1 <;> rcases Nat.lt_or_gt_of_ne hbc with h2 | h2 <;> rcases Nat.lt_or_gt_of_ne hac with h3 | h3 <;> try omega
  · have := r a b c (by omega) (by omega) (by omega) (by omega) (by omega); split <;> (try split) <;> omega
  · have := r a c b (by omega) (by omega) (by omega) (by omega) (by omega); split <;> (try split) <;> omega
  · have := r c a b (by omega) (by omega) (by omega) (by omega) (by omega); split <;> (try split) <;> omega
  · have := r b a c (by omega) (by omega) (by omega) (by omega) (by omega); split <;> (try split) <;> omega
  · have := r b c a (by omega) (by omega) (by omega) (by omega) (by omega); split <;> (try split) <;> omega
  · have := r c b a (by omega) (by omega) (by omega) (by omega) (by omega); split <;> (try split) <;> omega
def Rd8 (w : List Nat) (f : Nat → Nat → Nat → Int) (ok : Nat → Prop) : Prop := ∀ x y z, x < y → y < z → ok x → ok y → ok z → RdAt w f x y z
theorem Rd8.turn {w : List Nat} {f : Nat → Nat → Nat → Int} {ok : Nat → Prop} (R : Rd8 w f ok) (hw : w.length < 1000000) (hm : ∀ x, ok x → x < 1000000) {a b c : Nat} (ha : ok a) (hb : ok b) (hc : ok c) (hab : a ≠ b) (hac : a ≠ c) (hbc : b ≠ c) :
    m_turn_of [strD w, .int a, .int b, .int c] = .ok (.int (tn f a b c)) ∧ (tn f a b c = 1 ∨ tn f a b c = 0 ∨ tn f a b c = -1) := by
  have r : ∀ x y z, x < y → y < z → (x = a ∨ x = b ∨ x = c) → (y = a ∨ y = b ∨ y = c) → (z = a ∨ z = b ∨ z = c) → RdAt w f x y z := fun x y z h1 h2 hx hy hz =>
    R x y z h1 h2 (by rcases hx with rfl | rfl | rfl <;> assumption) (by rcases hy with rfl | rfl | rfl <;> assumption) (by rcases hz with rfl | rfl | rfl <;> assumption)
  exact ⟨turn_ok hw ⟨hm _ ha, hm _ hb, hm _ hc⟩ hab hac hbc r, tn_cs hab hac hbc fun x y z h1 h2 hx hy hz => (r x y z h1 h2 hx hy hz).2⟩
def b5 (t : Nat → Nat → Nat → Int) (x a b c d : Nat) : Bool := decide (t x a b * t x c d = -t x a c * t x b d) && (decide (-t x a c * t x b d = t x a d * t x b c) && decide (t x a d * t x b c ≠ 0))
theorem sm3 {z : Int} (h : z = 1 ∨ z = 0 ∨ z = -1) : -(2 ^ 64) < z ∧ z < 2 ^ 64 := by
  rcases h with rfl | rfl | rfl <;> decide
theorem sm3n {z : Int} (h : z = 1 ∨ z = 0 ∨ z = -1) : -(2 ^ 64) < -z ∧ -z < 2 ^ 64 := by
  rcases h with rfl | rfl | rfl <;> decide
theorem breaks_ok {w : List Nat} {f : Nat → Nat → Nat → Int} {ok : Nat → Prop} (R : Rd8 w f ok) (hw : w.length < 1000000) (hm : ∀ x, ok x → x < 1000000) {x a b c d : Nat} (hx : ok x) (ha : ok a) (hb : ok b) (hc : ok c) (hd : ok d)
    (h1 : x ≠ a) (h2 : x ≠ b) (h3 : x ≠ c) (h4 : x ≠ d) (h5 : a ≠ b) (h6 : a ≠ c) (h7 : a ≠ d) (h8 : b ≠ c) (h9 : b ≠ d) (h10 : c ≠ d) : m_breaks_five [strD w, .int x, .int a, .int b, .int c, .int d] = .ok (.bl (b5 (tn f) x a b c d)) := by
  show (c_breaks_five (strD w) (.int x) (.int a) (.int b) (.int c) (.int d)).toM = _
  unfold c_breaks_five
  obtain ⟨e1, q1⟩ := R.turn hw hm hx ha hb h1 h2 h5
  obtain ⟨e2, q2⟩ := R.turn hw hm hx hc hd h3 h4 h10
  obtain ⟨e3, q3⟩ := R.turn hw hm hx ha hc h1 h3 h6
  obtain ⟨e4, q4⟩ := R.turn hw hm hx hb hd h2 h4 h9
  obtain ⟨e5, q5⟩ := R.turn hw hm hx ha hd h1 h4 h7
  obtain ⟨e6, q6⟩ := R.turn hw hm hx hb hc h2 h3 h8
  simp only [mlist_cons, mlist_nil, bind_ok, b1_ok, e1, e2, e3, e4, e5, e6, b2_ok, neg_i]
  rw [mul_ii (.inl (sm3 q1)), mul_ii (.inl (sm3n q3)), mul_ii (.inl (sm3 q5)), bindC_ok, bindC_ok, bindC_ok]
  unfold chM3 b5
  simp only [bind_ok, eq_ii, ne_ii, isB_bl]
  generalize tn f x a b * tn f x c d = u
  generalize -tn f x a c * tn f x b d = v
  generalize tn f x a d * tn f x b c = z
  by_cases k1 : u = v
  · subst k1
    by_cases k2 : u = z
    · subst k2
      by_cases k3 : u = 0 <;> simp [k3]
    · simp [k2]
  · simp [k1]
end Mir
namespace Mir
open PySem PySem.Spec L2
def natsD (l : List Nat) : List D := l.map fun k : Nat => D.int k
def tupN (l : List Nat) : D := .tup (natsD l)
def t3D (t : T3) : D := tupN [t.1, t.2.1, t.2.2]
theorem threes_ok {n : Nat} (hn : n ≤ 8) : m_threes [.int n] = .ok (.lst ((thr n).map t3D)) := by
  show (c_threes (.int n)).toM = _
  unfold c_threes
  have hr : ∀ k : Nat, k ≤ 8 → b1 pyRange1 (mlist [.ok (.int k)]) = .ok (rangeD 0 k) := fun k hk => by rw [mlist_cons, mlist_nil, bind_ok, b1_ok, range_i (by omega), Int.toNat_natCast]
  rw [lcM_ok (hr n hn) (compR (fun c => (List.range c).flatMap fun b => (List.range b).flatMap fun a => [t3D (a, b, c)]) fun c hc => ?_), bindC_ok, toM_ret]
  · unfold thr
    simp only [List.map_flatMap, List.map_map]
    congr 2
    congr 1
    funext c
    congr 1
    funext b
    rw [List.map_eq_flatMap]
    rfl
  · have := len_flat (g := fun c => (List.range c).flatMap fun b => (List.range b).flatMap fun a => [t3D (a, b, c)]) (k := 64) (l := List.range n) fun c hc => by
      have hc := List.mem_range.mp hc
      have := len_flat (g := fun b => (List.range b).flatMap fun a => [t3D (a, b, c)]) (k := 8) (l := List.range c) fun b hb => by
        have hb := List.mem_range.mp hb
        have := len_flat (g := fun a => [t3D (a, b, c)]) (k := 1) (l := List.range b) fun a ha => by simp
        rw [List.length_range] at this
        omega
      rw [List.length_range] at this
      omega
    rw [List.length_range] at this
    omega
  · rw [inM_t (hr c (by omega)), compR (fun b => (List.range b).flatMap fun a => [t3D (a, b, c)]) fun b hb => ?_]
    rw [inM_t (hr b (by omega)), compR (fun a => [t3D (a, b, c)]) fun a ha => ?_]
    rw [tup3]
    exact elM_t rfl
def b4 (f : Nat → Nat → Nat → Int) (w a b c : Nat) : Bool := decide ([ltr (f w a b), ltr (f w a c), ltr (f w b c), ltr (f a b c)] = [76, 82, 76, 82]) || decide ([ltr (f w a b), ltr (f w a c), ltr (f w b c), ltr (f a b c)] = [82, 76, 82, 76])
def g4 (f : Nat → Nat → Nat → Int) (a b c w : Nat) : Option D := if b4 f w a b c = true then some (tupN [w, a, b, c]) else none
def g5 (f : Nat → Nat → Nat → Int) (v w a b c x : Nat) : Option D := match [v, w, a, b, c].filter (fun y => decide (y ≠ x)) with
  | [p, q, r, s] => if b5 (tn f) x p q r s = true then some (tupN [x, p, q, r, s]) else none
  | _ => none
def lbr (f : Nat → Nat → Nat → Int) (a b c : Nat) : Option D := ((List.range a).findSome? (g4 f a b c)).or ((List.range a).findSome? fun w => (List.range w).findSome? fun v => [v, w, a, b, c].findSome? (g5 f v w a b c))
def brch (f : Nat → Nat → Nat → Int) (n : Nat) : Option D := (thr n).findSome? fun t => lbr f t.1 t.2.1 t.2.2
def optD : Option D → D
  | some d => d
  | none => .non
theorem filt5 {v w a b c x : Nat} (h1 : v < w) (h2 : w < a) (h3 : a < b) (h4 : b < c) (hx : x ∈ [v, w, a, b, c]) : ∃ p q r s, [v, w, a, b, c].filter (fun y => decide (y ≠ x)) = [p, q, r, s] ∧ p < q ∧ q < r ∧ r < s ∧ x ≠ p ∧ x ≠ q ∧ x ≠ r ∧ x ≠ s ∧ v ≤ p ∧ s ≤ c := by
  have va := Nat.lt_trans h1 h2
  have wb := Nat.lt_trans h2 h3
  have ac := Nat.lt_trans h3 h4
  have vb := Nat.lt_trans va h3
  have wc := Nat.lt_trans wb h4
  have vc := Nat.lt_trans vb h4
  have no : ∀ {y z : Nat} {l : List Nat}, y ≠ z → (y :: l).filter (fun y => decide (y ≠ z)) = y :: l.filter (fun y => decide (y ≠ z)) := fun h => by rw [List.filter_cons, if_pos (decide_eq_true h)]
  have ye : ∀ {z : Nat} {l : List Nat}, (z :: l).filter (fun y => decide (y ≠ z)) = l.filter (fun y => decide (y ≠ z)) := fun {z l} => by rw [List.filter_cons, if_neg (by simp)]
  have ne : ∀ {y z : Nat}, y < z → y ≠ z := Nat.ne_of_lt
  have gt : ∀ {y z : Nat}, y < z → z ≠ y := Nat.ne_of_gt
  simp only [List.mem_cons, List.not_mem_nil, or_false] at hx
  rcases hx with rfl | rfl | rfl | rfl | rfl
  · exact ⟨w, a, b, c, by rw [ye, no (gt h1), no (gt va), no (gt vb), no (gt vc)]; rfl, h2, h3, h4, ne h1, ne va, ne vb, ne vc, Nat.le_of_lt h1, Nat.le_refl _⟩
  · exact ⟨v, a, b, c, by rw [no (ne h1), ye, no (gt h2), no (gt wb), no (gt wc)]; rfl, va, h3, h4, gt h1, ne h2, ne wb, ne wc, Nat.le_refl _, Nat.le_refl _⟩
  · exact ⟨v, w, b, c, by rw [no (ne va), no (ne h2), ye, no (gt h3), no (gt ac)]; rfl, h1, wb, h4, gt va, gt h2, ne h3, ne ac, Nat.le_refl _, Nat.le_refl _⟩
  · exact ⟨v, w, a, c, by rw [no (ne vb), no (ne wb), no (ne h3), ye, no (gt h4)]; rfl, h1, h2, ac, gt vb, gt wb, gt h3, ne h4, Nat.le_refl _, Nat.le_refl _⟩
  · exact ⟨v, w, a, b, by rw [no (ne vc), no (ne wc), no (ne ac), no (ne h4), ye]; rfl, h1, h2, h3, gt vc, gt wc, gt ac, gt h4, Nat.le_refl _, Nat.le_of_lt h4⟩
theorem mem_str2 {x p q : List Nat} : memD false (strD x) (.tup [strD p, strD q]) = .ok (.bl (decide (x = p) || decide (x = q))) := by
  show M.ok (D.bl (((⟨p.toArray⟩ : Str) == ⟨x.toArray⟩) || (((⟨q.toArray⟩ : Str) == ⟨x.toArray⟩) || false))) = _
  have e : ∀ p : List Nat, ((⟨p.toArray⟩ : Str) == ⟨x.toArray⟩) = decide (x = p) := fun p => by
    rw [Bool.eq_iff_iff, beq_iff_eq, decide_eq_true_eq, Str.mk.injEq]
    constructor
    · intro h; have := congrArg Array.toList h; simpa using this.symm
    · rintro rfl; rfl
  rw [e, e, Bool.or_false]
theorem strD_LRLR : D.str "LRLR" = strD [76, 82, 76, 82] := by unfold strD; congr 1
theorem strD_RLRL : D.str "RLRL" = strD [82, 76, 82, 76] := by unfold strD; congr 1
theorem ctl_out {X S T : Type} {s : S} {o : Option D} {k : S → Ctl X T} : (outF s o).bind k = match o with
    | some r => .ret r
    | none => k s := by cases o <;> rfl
theorem truth_b {b : Bool} : pyTruth (.bl b) = .ok b := rfl
theorem last_part {w : List Nat} {f : Nat → Nat → Nat → Int} {a b c : Nat} (R : Rd8 w f fun x => x ≤ a ∨ x = b ∨ x = c) (hw : w.length < 1000000) (hab : a < b) (hbc : b < c) (hc : c < 1000) : m_last_breach [strD w, .int a, .int b, .int c] = .ok (optD (lbr f a b c)) := by
  show (c_last_breach (strD w) (.int a) (.int b) (.int c)).toM = _
  unfold c_last_breach
  have hm : ∀ x, (x ≤ a ∨ x = b ∨ x = c) → x < 1000000 := fun x h => by omega
  have hr : ∀ k : Nat, k ≤ c → b1 pyRange1 (mlist [.ok (.int k)]) = .ok (rangeD 0 k) := fun k hk => by rw [mlist_cons, mlist_nil, bind_ok, b1_ok, range_i (by omega), Int.toNat_natCast]
  have hp : ∀ x y z : Nat, x < y → y < z → (x ≤ a ∨ x = b ∨ x = c) → (y ≤ a ∨ y = b ∨ y = c) → (z ≤ a ∨ z = b ∨ z = c) → b2 pyIx (.ok (strD w)) (b1 m_position (mlist [.ok (.int x), .ok (.int y), .ok (.int z)])) = .ok (strD [ltr (f x y z)]) := fun x y z h1 h2 k1 k2 k3 => by
    rw [mlist_cons, mlist_cons, mlist_cons, mlist_nil, bind_ok, bind_ok, bind_ok, b1_ok, position_ok (by omega) (by omega) (by omega), b2_ok, ix_strD hw (R x y z h1 h2 k1 k2 k3).1]
  rw [hr a (by omega), bindC_ok, bindC_ok, loopR_find (g4 f a b c) fun v hv => ?_, ctl_out]
  · unfold lbr
    cases (List.range a).findSome? (g4 f a b c) with
    | some r => rfl
    | none =>
      rw [Option.none_or]
      dsimp only
      rw [loopR_find (fun w => (List.range w).findSome? fun v => [v, w, a, b, c].findSome? (g5 f v w a b c)) fun u hu => ?_, ctl_out]
      · cases (List.range a).findSome? fun w => (List.range w).findSome? fun v => [v, w, a, b, c].findSome? (g5 f v w a b c) <;> rfl
      · rw [hr u (by omega), bindC_ok, loopR_find (fun v => [v, u, a, b, c].findSome? (g5 f v u a b c)) fun v hv => ?_, ctl_out]
        · cases (List.range u).findSome? fun v => [v, u, a, b, c].findSome? (g5 f v u a b c) <;> rfl
        · rw [tup5, b1_ok, show pyItems (.tup [D.int v, .int u, .int a, .int b, .int c]) = .ok ([v, u, a, b, c].map fun k : Nat => D.int k) from rfl, bindC_ok, loopM_find (fun k : Nat => D.int k) (g5 f v u a b c) fun x hx => ?_, ctl_out]
          · cases [v, u, a, b, c].findSome? (g5 f v u a b c) <;> rfl
          · rw [lcM_ok (ds := [v, u, a, b, c].map fun k : Nat => D.int k) (r := ([v, u, a, b, c].filter fun y => decide (y ≠ x)).map fun k : Nat => D.int k) rfl ?_ ?_, bindC_ok]
            · obtain ⟨p, q, r, s, e, l1, l2, l3, n1, n2, n3, n4, _, _⟩ := filt5 hv hu hab hbc hx
              have okm : ∀ y, y ∈ [v, u, a, b, c] → (y ≤ a ∨ y = b ∨ y = c) := fun y hy => by
                simp only [List.mem_cons, List.not_mem_nil, or_false] at hy
                omega
              have hmf : ∀ y, y ∈ [p, q, r, s] → (y ≤ a ∨ y = b ∨ y = c) := fun y hy => okm y (List.mem_filter.mp (e ▸ hy)).1
              unfold g5
              rw [e]
              show un4 (Ctl.stk : Ctl Unit Unit) (.lst [D.int p, .int q, .int r, .int s]) _ = _
              rw [un4_l]
              simp only [mlist_cons, mlist_nil, bind_ok, b1_ok]
              rw [breaks_ok R hw hm (x := x) (a := p) (b := q) (c := r) (d := s) (okm x hx) (hmf p (by simp)) (hmf q (by simp)) (hmf r (by simp)) (hmf s (by simp)) n1 n2 n3 n4 (Nat.ne_of_lt l1) (Nat.ne_of_lt (Nat.lt_trans l1 l2)) (Nat.ne_of_lt (Nat.lt_trans l1 (Nat.lt_trans l2 l3))) (Nat.ne_of_lt l2) (Nat.ne_of_lt (Nat.lt_trans l2 l3)) (Nat.ne_of_lt l3), b1_ok, truth_b, bindC_ok]
              cases b5 (tn f) x p q r s with
              | true => rw [tup_ok (by simp)]; rfl
              | false => rfl
            · rw [compL_map (fun k : Nat => D.int k) (fun y => if decide (y ≠ x) = true then [D.int y] else []) fun y hy => ?_]
              · congr 1
                generalize [v, u, a, b, c] = l
                induction l with
                | nil => rfl
                | cons y l ih =>
                  rw [List.flatMap_cons, ih, List.filter_cons]
                  split <;> rfl
              · rw [b2_ok, ne_ii, b1_ok, isB_bl]
                by_cases h : y = x
                · simp [h]; rfl
                · have : ¬((y : Int) = x) := by omega
                  simp [h, this]; rfl
            · rw [List.length_map]
              have := List.length_filter_le (fun y => decide (y ≠ x)) [v, u, a, b, c]
              simp only [List.length_cons, List.length_nil] at this
              omega
  · rw [tup3, tup3, tup3, tup3, mlist_cons, mlist_cons, mlist_cons, mlist_cons, mlist_nil, bind_ok, bind_ok, bind_ok, bind_ok, b1_ok, lst_ok (by simp), bindC_ok, b1_ok, show pyItems (.lst [D.tup [D.int v, .int a, .int b], .tup [D.int v, .int a, .int c], .tup [D.int v, .int b, .int c], .tup [D.int a, .int b, .int c]]) = .ok ([(v, a, b), (v, a, c), (v, b, c), (a, b, c)].map t3D) from rfl]
    rw [lcM_ok (r := [ltr (f v a b), ltr (f v a c), ltr (f v b c), ltr (f a b c)].map fun x => strD [x]) rfl ?_ (by simp)]
    · rw [show (b2s pyJoin (.ok (.str "")) (.ok (.lst ([ltr (f v a b), ltr (f v a c), ltr (f v b c), ltr (f a b c)].map fun x => strD [x])))) = pyJoin (.str "") (.lst ([ltr (f v a b), ltr (f v a c), ltr (f v b c), ltr (f a b c)].map fun x => strD [x])) from rfl, join_signs (by simp), tup2, b2_ok, strD_LRLR, strD_RLRL, mem_str2, b1_ok, isB_bl, bindC_ok]
      unfold g4 b4
      cases (decide ([ltr (f v a b), ltr (f v a c), ltr (f v b c), ltr (f a b c)] = [76, 82, 76, 82]) || decide ([ltr (f v a b), ltr (f v a c), ltr (f v b c), ltr (f a b c)] = [82, 76, 82, 76])) with
      | true => rw [tup4]; rfl
      | false => rfl
    · have := compL_map (f := fun v4_t => un3 .stk v4_t fun v5_p v6_q v7_r => elM (.ok true) (b2 pyIx (.ok (strD w)) (b1 m_position (mlist [.ok v5_p, .ok v6_q, .ok v7_r])))) t3D (fun t => [strD [ltr (f t.1 t.2.1 t.2.2)]]) (xs := [(v, a, b), (v, a, c), (v, b, c), (a, b, c)]) fun t ht => by
        have : t.1 < t.2.1 ∧ t.2.1 < t.2.2 ∧ (t.1 ≤ a ∨ t.1 = b ∨ t.1 = c) ∧ (t.2.1 ≤ a ∨ t.2.1 = b ∨ t.2.1 = c) ∧ (t.2.2 ≤ a ∨ t.2.2 = b ∨ t.2.2 = c) := by
          simp only [List.mem_cons, List.not_mem_nil, or_false] at ht
          rcases ht with rfl | rfl | rfl | rfl <;> (dsimp only; omega)
        show elM _ (b2 pyIx (.ok (strD w)) (b1 m_position (mlist [.ok (.int t.1), .ok (.int t.2.1), .ok (.int t.2.2)]))) = _
        rw [hp _ _ _ this.1 this.2.1 this.2.2.1 this.2.2.2.1 this.2.2.2.2]
        exact elM_t rfl
      exact this
theorem last_ok {w : List Nat} {f : Nat → Nat → Nat → Int} {a b c : Nat} (R : Rd8 w f (· ≤ c)) (hw : w.length < 1000000) (hab : a < b) (hbc : b < c) (hc : c < 1000) : m_last_breach [strD w, .int a, .int b, .int c] = .ok (optD (lbr f a b c)) := by
  have le : ∀ x, (x ≤ a ∨ x = b ∨ x = c) → x ≤ c := fun x h => by omega
  exact last_part (fun x y z h1 h2 k1 k2 k3 => R x y z h1 h2 (le x k1) (le y k2) (le z k3)) hw hab hbc hc
theorem breach_ok {w : List Nat} {f : Nat → Nat → Nat → Int} {n : Nat} (R : Rd8 w f (· < n)) (hw : w.length < 1000000) (hn : n ≤ 8) : m_breach [strD w, .int n] = .ok (optD (brch f n)) := by
  show (c_breach (strD w) (.int n)).toM = _
  unfold c_breach
  rw [mlist_cons, mlist_nil, bind_ok, b1_ok, threes_ok hn, b1_ok, show pyItems (.lst ((thr n).map t3D)) = .ok ((thr n).map t3D) from rfl, bindC_ok, loopM_find t3D (fun t => lbr f t.1 t.2.1 t.2.2) fun t ht => ?_, ctl_out]
  · unfold brch
    cases (thr n).findSome? fun t => lbr f t.1 t.2.1 t.2.2 <;> rfl
  · obtain ⟨h1, h2, h3⟩ := mem_thr.mp ht
    show un3 (Ctl.stk : Ctl Unit Unit) (.tup [D.int t.1, .int t.2.1, .int t.2.2]) _ = _
    rw [un3_t, mlist_cons, mlist_cons, mlist_cons, mlist_cons, mlist_nil, bind_ok, bind_ok, bind_ok, bind_ok, b1_ok, last_ok (fun x y z k1 k2 kx ky kz => R x y z k1 k2 (by dsimp only at *; omega) (by dsimp only at *; omega) (by dsimp only at *; omega)) hw h1 h2 (by omega), bindC_ok, b2_ok]
    have hnn : ∀ d, lbr f t.1 t.2.1 t.2.2 = some d → isNon d = false := by
      intro d hd
      unfold lbr at hd
      rw [Option.or_eq_some_iff] at hd
      rcases hd with hd | ⟨_, hd⟩
      · obtain ⟨u, _, hu⟩ := List.exists_of_findSome?_eq_some hd
        unfold g4 at hu
        split at hu
        · cases hu; rfl
        · cases hu
      · obtain ⟨u, _, hu⟩ := List.exists_of_findSome?_eq_some hd
        obtain ⟨v, _, hv⟩ := List.exists_of_findSome?_eq_some hu
        obtain ⟨x, _, hx⟩ := List.exists_of_findSome?_eq_some hv
        unfold g5 at hx
        split at hx
        · split at hx
          · cases hx; rfl
          · cases hx
        · cases hx
    show ((b1 isB (.ok (.bl (!isNon (optD (lbr f t.1 t.2.1 t.2.2)))))).bindC () fun c => if c = true then _ else _) = _
    cases hq : lbr f t.1 t.2.1 t.2.2 with
    | none => rfl
    | some d =>
      rw [b1_ok, isB_bl, bindC_ok, show optD (some d) = d from rfl, hnn d hq]
      rfl
end Mir
namespace Mir
open PySem PySem.Spec L2
structure TabF (n : Nat) (f : Nat → Nat → Nat → Int) : Prop where
  lo : 3 ≤ n
  hi : n ≤ 8
  pm : ∀ a b c, a < b → b < c → c < n → f a b c = 1 ∨ f a b c = -1
  ru : brch f n = none
def tabD (n : Nat) (f : Nat → Nat → Nat → Int) : D := .obj 1 [("letters", strD (lw n f)), ("posts", .int n)]
theorem TabF.rd {n : Nat} {f : Nat → Nat → Nat → Int} (t : TabF n f) : Rd8 (lw n f) f (· < n) := fun x y z h1 h2 _ _ h3 => lw_rd t.hi (by rcases t.pm x y z h1 h2 h3 with h | h <;> simp [h]) h1 h2 h3
theorem TabF.len {n : Nat} {f : Nat → Nat → Nat → Int} (t : TabF n f) : (lw n f).length < 1000000 := by have := lw_len (f := f) t.hi; omega
theorem TabF.turn {n : Nat} {f : Nat → Nat → Nat → Int} (t : TabF n f) {a b c : Nat} (ha : a < n) (hb : b < n) (hc : c < n) (hab : a ≠ b) (hac : a ≠ c) (hbc : b ≠ c) : m_turn_of [strD (lw n f), .int a, .int b, .int c] = .ok (.int (tn f a b c)) :=
  (t.rd.turn t.len (fun x h => by have := t.hi; omega) ha hb hc hab hac hbc).1
abbrev sizes : List (Int × Int) := [(1, 3), (4, 4), (10, 5), (20, 6), (35, 7), (56, 8)]
theorem thr_len_dec : ((List.range 9).all fun n => decide (n < 3) || decide (sizes.lookup ((thr n).length : Int) = some (n : Int))) = true := by decide +kernel
theorem size_lw {n : Nat} {f : Nat → Nat → Nat → Int} (h3 : 3 ≤ n) (h8 : n ≤ 8) : sizes.lookup ((lw n f).length : Int) = some (n : Int) := by
  have h := thr_len_dec
  simp only [List.all_eq_true, List.mem_range, Bool.or_eq_true, decide_eq_true_eq] at h
  have := (h n (by omega)).resolve_left (by omega)
  unfold lw
  rw [List.length_map]
  exact this
theorem kdIn_lw {n : Nat} {f : Nat → Nat → Nat → Int} (h3 : 3 ≤ n) (h8 : n ≤ 8) : kdIn [(1, 3), (4, 4), (10, 5), (20, 6), (35, 7), (56, 8)] true (.int (lw n f).length) = .ok (.bl false) := by
  show M.ok (D.bl (!(sizes.lookup ((lw n f).length : Int)).isSome)) = _
  rw [size_lw h3 h8]
  rfl
theorem kdGet_lw {n : Nat} {f : Nat → Nat → Nat → Int} (h3 : 3 ≤ n) (h8 : n ≤ 8) : kdGet [(1, 3), (4, 4), (10, 5), (20, 6), (35, 7), (56, 8)] (.int (lw n f).length) = .ok (.int n) := by
  show (ofOpt (sizes.lookup ((lw n f).length : Int))).bind (fun v => M.ok (D.int v)) = _
  rw [size_lw h3 h8]
  rfl
theorem takeWhile_all {p : Nat → Bool} : ∀ {l : List Nat}, (∀ x ∈ l, p x = true) → l.takeWhile p = l
  | [], _ => rfl
  | a :: l, h => by rw [List.takeWhile_cons, if_pos (h a (by simp)), takeWhile_all fun x hx => h x (by simp [hx])]
theorem strip_LR {l : List Nat} (hl : l.length < 1000000) (h : ∀ x ∈ l, x = 76 ∨ x = 82) : pyStripC (strD l) (.str "LR") = .ok (strD []) := by
  show (if Str.length ⟨l.toArray⟩ ≤ sizeLine then M.ok (D.str (Txt.stripChars ⟨l.toArray⟩ "LR")) else .stk) = _
  rw [str_len, if_pos (Nat.le_of_lt (sz_big hl))]
  unfold strD Txt.stripChars Txt.stripBy
  have hg : ∀ x ∈ l, (("LR" : Str).cps.contains x) = true := fun x hx => by
    rw [show ("LR" : Str).cps = #[76, 82] from rfl]
    rcases h x hx with h | h <;> subst h <;> simp
  have e1 : stripLo ("LR" : Str).cps.contains true ⟨l.toArray⟩ = l.length := by
    unfold stripLo
    rw [if_pos rfl]
    show (List.takeWhile _ l.toArray.toList).length = _
    rw [List.toList_toArray, takeWhile_all hg]
  have e2 : stripHi ("LR" : Str).cps.contains true ⟨l.toArray⟩ l.length = l.length := by
    unfold stripHi
    rw [if_pos rfl, str_len]
    show l.length - (List.takeWhile _ (List.drop l.length l.toArray.toList).reverse).length = _
    simp
  unfold stripSame
  rw [e1, e2, str_len]
  cases l with
  | nil => rfl
  | cons a l =>
    rw [if_neg (by simp)]
    unfold stripped
    rw [e1, e2]
    unfold Builtin.Str.strSub
    congr 3
    simp
theorem ltr_LR {n : Nat} {f : Nat → Nat → Nat → Int} (pm : ∀ a b c, a < b → b < c → c < n → f a b c = 1 ∨ f a b c = -1) : ∀ x ∈ lw n f, x = 76 ∨ x = 82 := by
  intro x hx
  unfold lw at hx
  obtain ⟨t, ht, rfl⟩ := List.mem_map.mp hx
  obtain ⟨h1, h2, h3⟩ := mem_thr.mp ht
  unfold ltr
  rcases pm _ _ _ h1 h2 h3 with h | h <;> simp [h]
abbrev strT : List (String × Bool) := [("NoneType", false), ("bool", false), ("int", false), ("str", true), ("list", false), ("tuple", false)]
theorem isi_str {l : List Nat} : isiD strT [(1, false)] (strD l) = .ok (.bl true) := rfl
theorem init_tab {n : Nat} {f : Nat → Nat → Nat → Int} (t : TabF n f) : m_Table___init [strD (lw n f)] = .ok [("letters", strD (lw n f)), ("posts", .int n)] := by
  show (c_Table___init (strD (lw n f))).toF = _
  unfold c_Table___init
  simp only [mlist_cons, mlist_nil, bind_ok, b1_ok]
  rw [isi_str, b1_ok, truth_b, notM_ok, orM_ok, if_neg (by simp), len_strD t.len, b1_ok, kdIn_lw t.lo t.hi, b1_ok, isB_bl, orM_ok, if_neg (by simp)]
  rw [show b2s pyStripC (.ok (strD (lw n f))) (.ok (.str "LR")) = pyStripC (strD (lw n f)) (.str "LR") from rfl, strip_LR t.len (ltr_LR t.pm), strD_nil, b2_ok, ne_strD, b1_ok, isB_bl, bindC_ok]
  simp only [decide_true, Bool.not_true, if_neg Bool.false_ne_true]
  rw [b1_ok, kdGet_lw t.lo t.hi, bindC_ok, breach_ok t.rd t.len t.hi, t.ru, bindC_ok]
  rfl
theorem make_tab {n : Nat} {f : Nat → Nat → Nat → Int} (t : TabF n f) : mkO 1 m_Table___init [strD (lw n f)] = .ok (tabD n f) := by
  show (m_Table___init [strD (lw n f)]).bind _ = _
  rw [init_tab t]
  rfl
theorem fld_letters {n : Nat} {f : Nat → Nat → Nat → Int} : pyFld 1 "letters" (tabD n f) = .ok (strD (lw n f)) := rfl
theorem fld_posts {n : Nat} {f : Nat → Nat → Nat → Int} : pyFld 1 "posts" (tabD n f) = .ok (.int n) := by
  show ofOpt (([("letters", strD (lw n f)), ("posts", .int n)] : List (Str × D)).lookup ("posts" : Str)) = _
  have : (([("letters", strD (lw n f)), ("posts", .int n)] : List (Str × D)).lookup ("posts" : Str)) = some (.int n) := by
    rw [List.lookup_cons, show (("posts" : Str) == ("letters" : Str)) = false by decide, List.lookup_cons]
    rfl
  rw [this]
  rfl
theorem findSome?_none {α β : Type} {g : α → Option β} {l : List α} (h : ∀ x ∈ l, g x = none) : l.findSome? g = none := by rw [List.findSome?_eq_none_iff]; exact h
theorem brch_none {n : Nat} {f : Nat → Nat → Nat → Int} (h4 : ∀ w a b c, w < a → a < b → b < c → c < n → b4 f w a b c = false) (h5 : ∀ x p q r s, p < q → q < r → r < s → s < n → x < n → x ≠ p → x ≠ q → x ≠ r → x ≠ s → b5 (tn f) x p q r s = false) : brch f n = none := by
  refine findSome?_none fun t ht => ?_
  obtain ⟨k1, k2, k3⟩ := mem_thr.mp ht
  unfold lbr
  rw [Option.or_eq_none_iff]
  refine ⟨findSome?_none fun w hw => ?_, findSome?_none fun w hw => findSome?_none fun v hv => findSome?_none fun x hx => ?_⟩
  · unfold g4
    rw [h4 w _ _ _ (List.mem_range.mp hw) k1 k2 k3]
    rfl
  · have hw := List.mem_range.mp hw
    have hv := List.mem_range.mp hv
    obtain ⟨p, q, r, s, e, q1, q2, q3, q4, q5, q6, q7, q8, q9⟩ := filt5 hv hw k1 k2 hx
    unfold g5
    rw [e]
    have hxn : x < n := by
      simp only [List.mem_cons, List.not_mem_nil, or_false] at hx
      omega
    dsimp only
    rw [h5 x p q r s q1 q2 q3 (by omega) hxn q4 q5 q6 q7]
    rfl
theorem b5_of {t : Nat → Nat → Nat → Int} {x a b c d : Nat} : b5 t x a b c d = true ↔ brk5 t x a b c d := by
  unfold b5 brk5
  simp only [Bool.and_eq_true, decide_eq_true_eq]
end Mir
namespace Mir
open PySem PySem.Spec L2
mutual
def stdD : D → Bool
  | .non => true
  | .int _ => true
  | .str x => PyData.strOk x
  | .tup xs => stdDs xs
  | .lst xs => stdDs xs
  | _ => false
def stdDs : List D → Bool
  | [] => true
  | d :: ds => stdD d && stdDs ds
end
mutual
def depD : D → Nat
  | .tup xs => depDs xs + 1
  | .lst xs => depDs xs + 1
  | _ => 0
def depDs : List D → Nat
  | [] => 0
  | d :: ds => max (depD d) (depDs ds)
end
mutual
theorem std_py : ∀ {d : D}, stdD d = true → ∃ p, toPy d = some p ∧ p.canLay0 = true ∧ p.depth = depD d
  | .non, _ => ⟨.none, rfl, rfl, rfl⟩
  | .int i, _ => ⟨.int i, rfl, rfl, rfl⟩
  | .str x, h => ⟨.str x, rfl, by simpa [stdD, PyData.canLay0] using h, rfl⟩
  | .tup xs, h => by
    obtain ⟨ps, e, c, d⟩ := std_pys (ds := xs) (by simpa [stdD] using h)
    exact ⟨.tuple ps, by simp [toPy, e], by simpa [PyData.canLay0] using c, by simp [PyData.depth, depD, d]⟩
  | .lst xs, h => by
    obtain ⟨ps, e, c, d⟩ := std_pys (ds := xs) (by simpa [stdD] using h)
    exact ⟨.list ps, by simp [toPy, e], by simpa [PyData.canLay0] using c, by simp [PyData.depth, depD, d]⟩
  | .bl _, h => by simp [stdD] at h
  | .dct _, h => by simp [stdD] at h
  | .dks _, h => by simp [stdD] at h
  | .obj _ _, h => by simp [stdD] at h
  | .slf _ _ _, h => by simp [stdD] at h
  | .scr _, h => by simp [stdD] at h
theorem std_pys : ∀ {ds : List D}, stdDs ds = true → ∃ ps, toPys ds = some ps ∧ PyData.canLayAll0 ps = true ∧ PyData.depthAll ps = depDs ds
  | [], _ => ⟨[], rfl, rfl, rfl⟩
  | d :: ds, h => by
    have h : stdD d = true ∧ stdDs ds = true := by simpa [stdDs] using h
    obtain ⟨p, e, c, q⟩ := std_py h.1
    obtain ⟨ps, e', c', q'⟩ := std_pys h.2
    exact ⟨p :: ps, by simp [toPys, e, e'], by simp [PyData.canLayAll0, c, c'], by simp [PyData.depthAll, depDs, q, q']⟩
end
mutual
theorem eqv_std : ∀ {d e : D} {p q : PyData}, stdD d = true → stdD e = true → toPy d = some p → toPy e = some q → (PyData.eqv p q = true ↔ d = e)
  | .non, e, p, q, _, h, a, b => by
    cases a
    cases e <;> simp [stdD, toPy] at h b <;> (try subst b) <;> (try (obtain ⟨_, _, rfl⟩ := b)) <;> simp [PyData.eqv]
  | .int i, e, p, q, _, h, a, b => by
    cases a
    cases e <;> simp [stdD, toPy] at h b <;> (try subst b) <;> (try (obtain ⟨_, _, rfl⟩ := b)) <;> simp [PyData.eqv]
  | .str x, e, p, q, _, h, a, b => by
    cases a
    cases e <;> simp [stdD, toPy] at h b <;> (try subst b) <;> (try (obtain ⟨_, _, rfl⟩ := b)) <;> simp [PyData.eqv]
  | .tup xs, e, p, q, g, h, a, b => by
    have g : stdDs xs = true := by simpa [stdD] using g
    obtain ⟨ps, ep, rfl⟩ : ∃ ps, toPys xs = some ps ∧ .tuple ps = p := by simpa [toPy] using a
    cases e with
    | tup ys =>
      have h : stdDs ys = true := by simpa [stdD] using h
      obtain ⟨qs, eq, rfl⟩ : ∃ ps, toPys ys = some ps ∧ .tuple ps = q := by simpa [toPy] using b
      rw [PyData.eqv, eqvs_std g h ep eq, D.tup.injEq]
    | lst ys =>
      obtain ⟨qs, eq, rfl⟩ : ∃ ps, toPys ys = some ps ∧ .list ps = q := by simpa [toPy] using b
      simp [PyData.eqv]
    | _ => simp [stdD, toPy] at h b <;> (try subst b) <;> simp [PyData.eqv]
  | .lst xs, e, p, q, g, h, a, b => by
    have g : stdDs xs = true := by simpa [stdD] using g
    obtain ⟨ps, ep, rfl⟩ : ∃ ps, toPys xs = some ps ∧ .list ps = p := by simpa [toPy] using a
    cases e with
    | lst ys =>
      have h : stdDs ys = true := by simpa [stdD] using h
      obtain ⟨qs, eq, rfl⟩ : ∃ ps, toPys ys = some ps ∧ .list ps = q := by simpa [toPy] using b
      rw [PyData.eqv, eqvs_std g h ep eq, D.lst.injEq]
    | tup ys =>
      obtain ⟨qs, eq, rfl⟩ : ∃ ps, toPys ys = some ps ∧ .tuple ps = q := by simpa [toPy] using b
      simp [PyData.eqv]
    | _ => simp [stdD, toPy] at h b <;> (try subst b) <;> simp [PyData.eqv]
  | .bl _, _, _, _, h, _, _, _ => by simp [stdD] at h
  | .dct _, _, _, _, h, _, _, _ => by simp [stdD] at h
  | .dks _, _, _, _, h, _, _, _ => by simp [stdD] at h
  | .obj _ _, _, _, _, h, _, _, _ => by simp [stdD] at h
  | .slf _ _ _, _, _, _, h, _, _, _ => by simp [stdD] at h
  | .scr _, _, _, _, h, _, _, _ => by simp [stdD] at h
theorem eqvs_std : ∀ {ds es : List D} {ps qs : List PyData}, stdDs ds = true → stdDs es = true → toPys ds = some ps → toPys es = some qs → (PyData.eqvAll ps qs = true ↔ ds = es)
  | [], es, ps, qs, _, h, a, b => by
    cases a
    cases es with
    | nil => cases b; simp [PyData.eqvAll]
    | cons e es =>
      have h : stdD e = true ∧ stdDs es = true := by simpa [stdDs] using h
      obtain ⟨p, e1, _, _⟩ := std_py h.1
      obtain ⟨ps, e2, _, _⟩ := std_pys h.2
      simp [toPys, e1, e2] at b
      subst b
      simp [PyData.eqvAll]
  | d :: ds, es, ps, qs, g, h, a, b => by
    have g : stdD d = true ∧ stdDs ds = true := by simpa [stdDs] using g
    obtain ⟨p, e1, _, _⟩ := std_py g.1
    obtain ⟨ps', e2, _, _⟩ := std_pys g.2
    simp [toPys, e1, e2] at a
    subst a
    cases es with
    | nil => cases b; simp [PyData.eqvAll]
    | cons e es =>
      have h : stdD e = true ∧ stdDs es = true := by simpa [stdDs] using h
      obtain ⟨q, e3, _, _⟩ := std_py h.1
      obtain ⟨qs', e4, _, _⟩ := std_pys h.2
      simp [toPys, e3, e4] at b
      subst b
      rw [PyData.eqvAll, Bool.and_eq_true, eqv_std g.1 h.1 e1 e3, eqvs_std g.2 h.2 e2 e4, List.cons.injEq]
end
theorem eqS_std {x y : D} (hx : stdD x = true) (hy : stdD y = true) (h : scalD x y = true) : eqS x y = true ↔ x = y := by
  cases x <;> cases y <;> simp [scalD, eqS, stdD] at h hx hy ⊢
theorem eqD_std {x y : D} (hx : stdD x = true) (hy : stdD y = true) (dx : depD x ≤ 64) (dy : depD y ≤ 64) : ∃ b, eqD x y = .ok b ∧ (b = true ↔ x = y) := by
  unfold eqD
  by_cases h : scalD x y = true
  · rw [if_pos h]
    exact ⟨_, rfl, eqS_std hx hy h⟩
  · rw [if_neg h]
    obtain ⟨p, e1, c1, d1⟩ := std_py hx
    obtain ⟨q, e2, c2, d2⟩ := std_py hy
    rw [e1, e2]
    dsimp only
    have s1 : SeqAt.shaped p = true := by unfold SeqAt.shaped; rw [c1, d1, decide_eq_true dx]; rfl
    have s2 : SeqAt.shaped q = true := by unfold SeqAt.shaped; rw [c2, d2, decide_eq_true dy]; rfl
    rw [if_pos ⟨s1, s2⟩]
    exact ⟨_, rfl, eqv_std hx hy e1 e2⟩
theorem eq_std {x y : D} (hx : stdD x = true) (hy : stdD y = true) (dx : depD x ≤ 64) (dy : depD y ≤ 64) : ∃ b : Bool, pyEq x y = .ok (.bl b) ∧ pyNe x y = .ok (.bl (!b)) ∧ (b = true ↔ x = y) := by
  obtain ⟨b, e, h⟩ := eqD_std hx hy dx dy
  refine ⟨b, ?_, ?_, h⟩
  · unfold pyEq; rw [e]; rfl
  · unfold pyNe; rw [e]; rfl
theorem eq_same {x : D} (hx : stdD x = true) (dx : depD x ≤ 64) : pyEq x x = .ok (.bl true) ∧ pyNe x x = .ok (.bl false) := by
  obtain ⟨b, e1, e2, h⟩ := eq_std hx hx dx dx
  have := h.mpr rfl
  subst this
  exact ⟨e1, e2⟩
theorem stdDs_all {l : List D} (h : ∀ d ∈ l, stdD d = true) : stdDs l = true := by
  induction l with
  | nil => rfl
  | cons d l ih => simp [stdDs, h d (by simp), ih fun e he => h e (by simp [he])]
theorem depDs_le {l : List D} {k : Nat} (h : ∀ d ∈ l, depD d ≤ k) : depDs l ≤ k := by
  induction l with
  | nil => simp [depDs]
  | cons d l ih =>
    have := h d (by simp)
    have := ih fun e he => h e (by simp [he])
    simp [depDs]
    omega
end Mir
namespace Mir
open PySem PySem.Spec L2
end Mir
namespace Mir
abbrev Tn := Nat → Nat → Nat → Int
def Q4 (t : Tn) (w a b c : Nat) : Prop := t w a b = - t w a c ∧ - t w a c = t w b c ∧ t w b c = - t a b c
structure Alt (t : Tn) : Prop where
  s1 : ∀ a b c, a ≠ b → a ≠ c → b ≠ c → t b a c = - t a b c
  s2 : ∀ a b c, a ≠ b → a ≠ c → b ≠ c → t a c b = - t a b c
structure Tb (n : Nat) (t : Tn) : Prop where
  lo : 3 ≤ n
  hi : n ≤ 8
  al : Alt t
  pm : ∀ a b c, a < n → b < n → c < n → a ≠ b → a ≠ c → b ≠ c → t a b c = 1 ∨ t a b c = -1
  r4 : ∀ w a b c, w < n → a < n → b < n → c < n → w ≠ a → w ≠ b → w ≠ c → a ≠ b → a ≠ c → b ≠ c → ¬ Q4 t w a b c
  r5 : ∀ x a b c d, x < n → a < n → b < n → c < n → d < n → x ≠ a → x ≠ b → x ≠ c → x ≠ d → a ≠ b → a ≠ c → a ≠ d → b ≠ c → b ≠ d → c ≠ d → ¬ brk5 t x a b c d
theorem Alt.cyc {t : Tn} (h : Alt t) {a b c : Nat} (hab : a ≠ b) (hac : a ≠ c) (hbc : b ≠ c) : t b c a = t a b c := by
  have := h.s1 a b c hab hac hbc
  have := h.s2 b a c (Ne.symm hab) hbc hac
  omega
theorem Alt.cyc2 {t : Tn} (h : Alt t) {a b c : Nat} (hab : a ≠ b) (hac : a ≠ c) (hbc : b ≠ c) : t c a b = t a b c := by
  have := h.s2 a b c hab hac hbc
  have := h.s1 a c b hac hab (Ne.symm hbc)
  omega
theorem Alt.rv {t : Tn} (h : Alt t) {a b c : Nat} (hab : a ≠ b) (hac : a ≠ c) (hbc : b ≠ c) : t c b a = - t a b c := by
  have := h.cyc hab hac hbc
  have := h.s1 b c a hbc (Ne.symm hab) (Ne.symm hac)
  omega
theorem Alt.tn_eq {t : Tn} (h : Alt t) {a b c : Nat} (hab : a ≠ b) (hac : a ≠ c) (hbc : b ≠ c) : tn t a b c = t a b c := by
  unfold tn
  split <;> split <;> try split
  · rfl
  · have := h.s2 a b c hab hac hbc; omega
  · exact h.cyc2 hab hac hbc
  · have := h.s1 a b c hab hac hbc; omega
  · exact h.cyc hab hac hbc
  · have := h.rv hab hac hbc; omega
theorem pt_alt (l : List Pt) : Alt (ptT l) := ⟨fun a b c _ _ _ => ptT_swap l a b c, fun a b c _ _ _ => ptT_swap2 l a b c⟩
theorem GP.tb {l : List Pt} (g : GP l) (h3 : 3 ≤ l.length) (h8 : l.length ≤ 8) : Tb l.length (ptT l) where
  lo := h3
  hi := h8
  al := pt_alt l
  pm := fun a b c ha hb hc => g.turn ha hb hc
  r4 := fun w a b c hw ha hb hc h1 h2 h3 h4 h5 h6 q => by
    have e := crs4 (gp l w) (gp l a) (gp l b) (gp l c)
    have k1 := g.all hw ha hb h1 h2 h4
    unfold Q4 ptT at q
    rcases sgn_cases (crs (gp l w) (gp l a) (gp l b)) with h | h | h <;> rcases sgn_cases (crs (gp l w) (gp l a) (gp l c)) with i | i | i <;> rcases sgn_cases (crs (gp l w) (gp l b) (gp l c)) with j | j | j <;> rcases sgn_cases (crs (gp l a) (gp l b) (gp l c)) with k | k | k <;> omega
  r5 := fun x a b c d _ _ _ _ _ _ _ _ _ _ _ _ _ _ _ => pt_r5
section
variable {t : Tn} (h : Alt t)
include h
end
def Sees (t : Tn) (d a b c : Nat) : Prop := t d a b = t d b c ∧ t d a b = t d a c
section
variable {t : Tn} (al : Alt t) {a b c d e : Nat} (hab : a ≠ b) (hac : a ≠ c) (hbc : b ≠ c) (d1 : d ≠ a) (d2 : d ≠ b) (d3 : d ≠ c) (e1 : e ≠ a) (e2 : e ≠ b) (e3 : e ≠ c) (s1 : Sees t d a b c) (s2 : Sees t e a b c) (p1 : t d a b = 1 ∨ t d a b = -1) (p2 : t e a b = 1 ∨ t e a b = -1)
include al hab hac hbc d1 d2 d3 e1 e2 e3 s1 s2 p1 p2
end
end Mir
namespace Mir
open PySem PySem.Spec L2
theorem Tb.tab {n : Nat} {t : Tn} (T : Tb n t) : TabF n t := by
  have pm : ∀ a b c, a < b → b < c → c < n → t a b c = 1 ∨ t a b c = -1 := fun a b c h1 h2 h3 => T.pm a b c (by omega) (by omega) h3 (by omega) (by omega) (by omega)
  refine ⟨T.lo, T.hi, pm, brch_none (fun w a b c h1 h2 h3 h4 => ?_) fun x p q r s h1 h2 h3 h4 h5 h6 h7 h8 h9 => ?_⟩
  · have k := T.r4 w a b c (by omega) (by omega) (by omega) h4 (by omega) (by omega) (by omega) (by omega) (by omega) (by omega)
    unfold Q4 at k
    unfold b4 ltr
    rcases pm w a b (by omega) (by omega) (by omega) with e1 | e1 <;> rcases pm w a c (by omega) (by omega) (by omega) with e2 | e2 <;> rcases pm w b c (by omega) (by omega) (by omega) with e3 | e3 <;> rcases pm a b c (by omega) (by omega) (by omega) with e4 | e4 <;> simp [e1, e2, e3, e4] at k ⊢
  · have k := T.r5 x p q r s h5 (by omega) (by omega) (by omega) h4 h6 h7 h8 h9 (by omega) (by omega) (by omega) (by omega) (by omega) (by omega)
    cases hb : b5 (tn t) x p q r s with
    | false => rfl
    | true =>
      exfalso
      apply k
      have hb := b5_of.mp hb
      unfold brk5 at hb ⊢
      rw [T.al.tn_eq h6 h7 (by omega), T.al.tn_eq h8 h9 (by omega), T.al.tn_eq h6 h8 (by omega), T.al.tn_eq h7 h9 (by omega), T.al.tn_eq h6 h9 (by omega), T.al.tn_eq h7 h8 (by omega)] at hb
      exact hb
theorem Tb.ne0 {n : Nat} {t : Tn} (T : Tb n t) : ∀ a b c, a < b → b < c → c < n → t a b c ≠ 0 := fun a b c h1 h2 h3 => by have := T.tab.pm a b c h1 h2 h3; omega
theorem ne_nat {a b : Nat} : pyNe (.int a) (.int b) = .ok (.bl (decide (a ≠ b))) := by
  rw [ne_ii]
  congr 2
  by_cases h : a = b
  · simp [h]
  · have : ¬((a : Int) = b) := by omega
    simp [h, this]
theorem range_n {n : Nat} (h : n < 1000000) : b1 pyRange1 (mlist [.ok (.int n)]) = .ok (rangeD 0 n) := by rw [mlist_cons, mlist_nil, bind_ok, b1_ok, range_i (by omega), Int.toNat_natCast]
end Mir
namespace Mir
open PySem PySem.Spec L2
theorem draw_n (l : List Int) (k many : Nat) (h : 0 < many) : ∃ d : Nat, m_l_draw [intsD l, .int k, .int many] = .ok (.int d) ∧ d < many := by
  have z0 : 0 ≤ drawn l k many := drawn_nonneg (by omega)
  have y0 : drawn l k many < many := drawn_lt (by omega)
  refine ⟨(drawn l k many).toNat, ?_, by omega⟩
  rw [draw_ok l k many (by omega)]
  congr 2
  omega
theorem word_ok {n : Nat} {t : Tn} (T : Tb n t) : b1 m_l_letters (mlist [.ok (.dct (turnsK n t)), .ok (.int n)]) = .ok (strD (lw n t)) := by
  rw [mlist_cons, mlist_cons, mlist_nil, bind_ok, bind_ok, b1_ok, letters_ok T.hi T.ne0]
theorem make_ok {n : Nat} {t : Tn} (T : Tb n t) : b1 (mkO 1 m_Table___init) (mlist [.ok (strD (lw n t))]) = .ok (tabD n t) := by
  rw [mlist_cons, mlist_nil, bind_ok, b1_ok, make_tab T.tab]
end Mir
namespace Mir
open PySem PySem.Spec L2
end Mir
namespace Mir
open PySem PySem.Spec L2
section
variable {α : Type} {m : List D → M α} {a b c d e : D}
theorem c1 : b1 m (mlist [.ok a]) = m [a] := by rw [mlist_cons, mlist_nil, bind_ok, b1_ok]
theorem c2 : b1 m (mlist [.ok a, .ok b]) = m [a, b] := by rw [mlist_cons, mlist_cons, mlist_nil, bind_ok, bind_ok, b1_ok]
theorem c3 : b1 m (mlist [.ok a, .ok b, .ok c]) = m [a, b, c] := by rw [mlist_cons, mlist_cons, mlist_cons, mlist_nil, bind_ok, bind_ok, bind_ok, b1_ok]
theorem c4 : b1 m (mlist [.ok a, .ok b, .ok c, .ok d]) = m [a, b, c, d] := by rw [mlist_cons, mlist_cons, mlist_cons, mlist_cons, mlist_nil, bind_ok, bind_ok, bind_ok, bind_ok, b1_ok]
theorem c5 : b1 m (mlist [.ok a, .ok b, .ok c, .ok d, .ok e]) = m [a, b, c, d, e] := by rw [mlist_cons, mlist_cons, mlist_cons, mlist_cons, mlist_cons, mlist_nil, bind_ok, bind_ok, bind_ok, bind_ok, bind_ok, b1_ok]
end
theorem nodup_at {α : Type} {l : List α} (nd : l.Nodup) {i j : Nat} (hi : i < l.length) (hj : j < l.length) (e : l[i] = l[j]) : i = j := by
  rcases Nat.lt_trichotomy i j with h | h | h
  · exact absurd e (List.pairwise_iff_getElem.mp nd i j hi hj h)
  · exact h
  · exact absurd e.symm (List.pairwise_iff_getElem.mp nd j i hj hi h)
def natsL (l : List Nat) : D := .lst (natsD l)
theorem ix_nats {l : List Nat} {k : Nat} (h : k < l.length) : pyIx (natsL l) (.int k) = .ok (.int l[k]) := by
  show ofOpt (atI (natsD l) (k : Int)) = _
  rw [atI_nat (x := D.int l[k]) (by unfold natsD; rw [List.getElem?_map, List.getElem?_eq_getElem h]; rfl)]
  rfl
theorem len_nats {l : List Nat} : b1 pyLen (mlist [.ok (natsL l)]) = .ok (.int l.length) := by
  rw [mlist_cons, mlist_nil, bind_ok, b1_ok]
  show M.ok (D.int (natsD l).length) = _
  unfold natsD
  rw [List.length_map]
theorem natsL_ints {l : List Nat} : natsL l = intsD (l.map fun k : Nat => (k : Int)) := by
  unfold natsL natsD intsD
  rw [List.map_map]
  rfl
structure Named (n many : Nat) (l : List Nat) : Prop where
  len : l.length = many
  nd : l.Nodup
  lt : ∀ x ∈ l, x < n
def nm (p : List Nat) (a : Nat) : Nat := p.getD a 0
theorem nm_at {p : List Nat} {a : Nat} (h : a < p.length) : nm p a = p[a] := by unfold nm; rw [List.getD_eq_getElem?_getD, List.getElem?_eq_getElem h]; rfl
theorem Named.inj {n many : Nat} {p : List Nat} (h : Named n many p) {a b : Nat} (ha : a < many) (hb : b < many) (hab : a ≠ b) : nm p a ≠ nm p b := by
  have ha' : a < p.length := by rw [h.len]; exact ha
  have hb' : b < p.length := by rw [h.len]; exact hb
  rw [nm_at ha', nm_at hb']
  intro e
  exact hab (nodup_at h.nd ha' hb' e)
def rgI (n : Nat) : List Int := (List.range n).map fun k : Nat => (k : Int)
theorem listRg_i {n : Int} (h : -(2 ^ 62) ≤ n ∧ n < 16777216) : pyListRg (.int n) = .ok (.lst (rangeD 0 n.toNat)) := if_pos h
theorem listRg_n {n : Nat} (h : n < 1000) : pyListRg (.int n) = .ok (intsD (rgI n)) := by
  rw [listRg_i (by omega), Int.toNat_natCast, rangeD_map]
  unfold intsD rgI
  rw [List.map_map]
  rfl
end Mir
namespace Mir
open PySem PySem.Spec L2
end Mir
namespace Mir
open PySem PySem.Spec L2
end Mir
namespace Mir
open PySem PySem.Spec L2
def bk (n : Nat) (p : List Nat) : List Nat := (List.range n).map fun k => p.idxOf k
theorem b1_draw {l : List Int} {k m : D} : b1 m_l_draw (mlist [.ok (intsD l), .ok k, .ok m]) = m_l_draw [intsD l, k, m] := by
  rw [mlist_cons, mlist_cons, mlist_cons, mlist_nil, bind_ok, bind_ok, bind_ok, b1_ok]
end Mir
namespace Mir
open PySem PySem.Spec L2
def c_is_inside (p_letters p_p p_a p_b p_c : D) : Ctl Unit Unit := M.bindC (chM pyEq pyEq (b1 m_turn_of (mlist [.ok p_letters, .ok p_p, .ok p_a, .ok p_b])) (b1 m_turn_of (mlist [.ok p_letters, .ok p_p, .ok p_b, .ok p_c])) (b1 m_turn_of (mlist [.ok p_letters, .ok p_p, .ok p_c, .ok p_a]))) () Ctl.ret
def m_is_inside : List D → M D := ar5 c_is_inside
def c_on_rim (p_letters p_group p_p : D) : Ctl Unit Unit := M.bindC (lcM (b1 pyItems (.ok p_group)) (fun v2_post => elM (b1 isB (b2 pyNe (.ok v2_post) (.ok p_p))) (.ok v2_post))) () fun v1_others => M.bindC (b1 pyEnum (mlist [.ok v1_others])) () fun v15_ds => (forC (X := Unit) (S := Unit) (fun v4_t (v3_j : Unit) => un2 .stk v4_t fun v5_k v6_a => M.bindC (b1 pyEnum (mlist [slM (.ok v1_others) (.ok none) (b1 someI (.ok v5_k))])) () fun v14_ds => (forC (X := Unit) (S := Unit) (fun v8_t (v7_j : Unit) => un2 .stk v8_t fun v9_j v10_b => M.bindC (b1 pyItems (slM (.ok v1_others) (.ok none) (b1 someI (.ok v9_j)))) () fun v13_ds => (forC (X := Unit) (S := Unit) (fun v12_c (v11_j : Unit) => M.bindC (b1 pyTruth (b1 m_is_inside (mlist [.ok p_letters, .ok p_p, .ok v6_a, .ok v10_b, .ok v12_c]))) () fun c => if c = true then (M.bindC (.ok (.bl false)) () Ctl.ret) else .nx ()) v13_ds ()).bind fun (v11_j : Unit) => .nx ()) v14_ds ()).bind fun (v7_j : Unit) => .nx ()) v15_ds ()).bind fun (v3_j : Unit) => M.bindC (.ok (.bl true)) () Ctl.ret
def m_on_rim : List D → M D := ar3 c_on_rim
end Mir
namespace Mir
section
variable {t : Tn}
def insT3 (t : Tn) (p a b c : Nat) : Bool := decide (t p a b = t p b c) && decide (t p b c = t p c a)
theorem insT3_iff {p a b c : Nat} : insT3 t p a b c = true ↔ t p a b = t p b c ∧ t p b c = t p c a := by
  unfold insT3
  simp
def Rim (t : Tn) (L : List Nat) (p : Nat) : Prop := ∀ a b c, a ∈ L → b ∈ L → c ∈ L → a ≠ p → b ≠ p → c ≠ p → a ≠ b → a ≠ c → b ≠ c → insT3 t p a b c = false
theorem ins_rot {p a b c : Nat} : insT3 t p a b c = insT3 t p b c a := by
  rw [Bool.eq_iff_iff, insT3_iff, insT3_iff]
  constructor
  · rintro ⟨h1, h2⟩; exact ⟨h2, by omega⟩
  · rintro ⟨h1, h2⟩; exact ⟨by omega, h1⟩
theorem ins_swap (h : Alt t) {p a b c : Nat} (h1 : p ≠ a) (h2 : p ≠ b) (h3 : p ≠ c) (h4 : a ≠ b) (h5 : a ≠ c) (h6 : b ≠ c) : insT3 t p b a c = insT3 t p a b c := by
  have e1 := h.s2 p a b h1 h2 h4
  have e2 := h.s2 p b c h2 h3 h6
  have e3 := h.s2 p a c h1 h3 h5
  rw [Bool.eq_iff_iff, insT3_iff, insT3_iff]
  constructor
  · rintro ⟨k1, k2⟩; constructor <;> omega
  · rintro ⟨k1, k2⟩; constructor <;> omega
theorem first_of (al : Alt t) {p : Nat} : ∀ L : List Nat, L ≠ [] → L.Nodup → p ∉ L → (∀ a b, a ∈ L → b ∈ L → a ≠ b → t p a b = 1 ∨ t p a b = -1) → (∀ a b c, a ∈ L → b ∈ L → c ∈ L → a ≠ b → a ≠ c → b ≠ c → insT3 t p a b c = false) →
    ∃ q, q ∈ L ∧ ∀ r, r ∈ L → r ≠ q → t p q r = 1
  | [], h, _, _, _, _ => absurd rfl h
  | k :: L, _, nd, hp, pm, ins => by
    obtain ⟨nk, nd⟩ := List.nodup_cons.mp nd
    have hpk : p ≠ k := fun z => hp (z ▸ List.mem_cons_self ..)
    have hpL : p ∉ L := fun z => hp (List.mem_cons_of_mem _ z)
    by_cases e : L = []
    · subst e
      exact ⟨k, List.mem_cons_self .., fun r hr n => absurd (List.mem_singleton.mp hr) n⟩
    obtain ⟨q, hq, h⟩ := first_of al L e nd hpL (fun a b ha hb => pm a b (List.mem_cons_of_mem _ ha) (List.mem_cons_of_mem _ hb)) fun a b c ha hb hc => ins a b c (List.mem_cons_of_mem _ ha) (List.mem_cons_of_mem _ hb) (List.mem_cons_of_mem _ hc)
    have hqk : q ≠ k := fun z => nk (z ▸ hq)
    have hpq : p ≠ q := fun z => hpL (z ▸ hq)
    rcases pm q k (List.mem_cons_of_mem _ hq) (List.mem_cons_self ..) hqk with h1 | h1
    · exact ⟨q, List.mem_cons_of_mem _ hq, fun r hr n => by
        rcases List.mem_cons.mp hr with rfl | hr
        · exact h1
        · exact h r hr n⟩
    · have h2 : t p k q = 1 := by have := al.s2 p q k hpq hpk hqk; omega
      refine ⟨k, List.mem_cons_self .., fun r hr n => ?_⟩
      rcases List.mem_cons.mp hr with rfl | hr
      · exact absurd rfl n
      by_cases e : r = q
      · rw [e]; exact h2
      have hpr : p ≠ r := fun z => hpL (z ▸ hr)
      have h3 := h r hr e
      rcases pm k r (List.mem_cons_self ..) (List.mem_cons_of_mem _ hr) (Ne.symm n) with h4 | h4
      · exact h4
      · exfalso
        have h5 : t p r k = 1 := by have := al.s2 p k r hpk hpr (Ne.symm n); omega
        have h6 := ins k q r (List.mem_cons_self ..) (List.mem_cons_of_mem _ hq) (List.mem_cons_of_mem _ hr) (Ne.symm hqk) (Ne.symm n) (Ne.symm e)
        rw [insT3_iff.mpr ⟨by omega, by omega⟩] at h6
        cases h6
theorem way_rim {n : Nat} (T : Tb n t) {L : List Nat} {p q : Nat} (hL : ∀ x, x ∈ L → x < n) (hp : p < n) (hq : q ∈ L) (hpq : q ≠ p) (h : ∀ r, r ∈ L → r ≠ p → r ≠ q → t p q r = 1) : Rim t L p := by
  intro a b c ha hb hc pa pb pc ab ac bc
  cases e : insT3 t p a b c with
  | false => rfl
  | true =>
    exfalso
    obtain ⟨k1, k2⟩ := insT3_iff.mp e
    have s1 := T.al.s2 p a b (Ne.symm pa) (Ne.symm pb) ab
    have s2 := T.al.s2 p b c (Ne.symm pb) (Ne.symm pc) bc
    have s3 := T.al.s2 p a c (Ne.symm pa) (Ne.symm pc) ac
    by_cases qa : q = a
    · subst qa
      have := h b hb pb (Ne.symm ab)
      have := h c hc pc (Ne.symm ac)
      omega
    by_cases qb : q = b
    · subst qb
      have := h a ha pa ab
      have := h c hc pc (Ne.symm bc)
      omega
    by_cases qc : q = c
    · subst qc
      have := h a ha pa ac
      have := h b hb pb bc
      omega
    have h1 := h a ha pa (Ne.symm qa)
    have h2 := h b hb pb (Ne.symm qb)
    have h3 := h c hc pc (Ne.symm qc)
    refine T.r5 p q a b c hp (hL q hq) (hL a ha) (hL b hb) (hL c hc) (Ne.symm hpq) (Ne.symm pa) (Ne.symm pb) (Ne.symm pc) qa qb qc ab ac bc ?_
    have pm := T.pm p a b hp (hL a ha) (hL b hb) (Ne.symm pa) (Ne.symm pb) ab
    unfold brk5
    rw [h1, h2, h3]
    omega
theorem rim_way {n : Nat} (T : Tb n t) {L : List Nat} {p : Nat} (hL : ∀ x, x ∈ L → x < n) (nd : L.Nodup) (hp : p < n) (h2 : ∃ x, x ∈ L ∧ x ≠ p) (R : Rim t L p) : ∃ q, q ∈ L ∧ q ≠ p ∧ ∀ r, r ∈ L → r ≠ p → r ≠ q → t p q r = 1 := by
  obtain ⟨x, hx, hxp⟩ := h2
  have hm : ∀ a, a ∈ L.filter (fun y => decide (y ≠ p)) ↔ a ∈ L ∧ a ≠ p := fun a => by rw [List.mem_filter, decide_eq_true_eq]
  obtain ⟨q, hq, h⟩ := first_of T.al (p := p) (L.filter fun y => decide (y ≠ p)) (fun z => by
      have := (hm x).mpr ⟨hx, hxp⟩
      rw [z] at this
      cases this) (nd.filter _) (fun z => ((hm p).mp z).2 rfl) (fun a b ha hb ab => by
      obtain ⟨a1, a2⟩ := (hm a).mp ha
      obtain ⟨b1, b2⟩ := (hm b).mp hb
      exact T.pm p a b hp (hL a a1) (hL b b1) (Ne.symm a2) (Ne.symm b2) ab) (fun a b c ha hb hc ab ac bc => by
      obtain ⟨a1, a2⟩ := (hm a).mp ha
      obtain ⟨b1, b2⟩ := (hm b).mp hb
      obtain ⟨c1, c2⟩ := (hm c).mp hc
      exact R a b c a1 b1 c1 a2 b2 c2 ab ac bc)
  obtain ⟨q1, q2⟩ := (hm q).mp hq
  exact ⟨q, q1, q2, fun r hr rp rq => h r ((hm r).mpr ⟨hr, rp⟩) rq⟩
end
end Mir
namespace Mir
open PySem PySem.Spec L2
theorem loop_out {X : Type} {f : D → Unit → Ctl X Unit} {r : Ctl X Unit} (hr : ∀ k : Unit → Ctl X Unit, r.bind k = r) : ∀ {ds : List D} (bad : Nat → Bool), (∀ (j : Nat) d, ds[j]? = some d → f d () = if bad j = true then r else .nx ()) → forC f ds () = if (List.range ds.length).any bad = true then r else .nx ()
  | [], bad, _ => rfl
  | d :: ds, bad, h => by
    show (f d ()).bind (forC f ds) = _
    rw [h 0 d rfl]
    have ih := loop_out (f := f) hr (ds := ds) (fun j => bad (j + 1)) fun j d hj => h (j + 1) d (by simpa using hj)
    have e : (List.range (d :: ds).length).any bad = (bad 0 || (List.range ds.length).any fun j => bad (j + 1)) := by
      rw [List.length_cons, List.range_succ_eq_map, List.any_cons, List.any_map]
      rfl
    rw [e]
    cases hb : bad 0 with
    | true =>
      simp only [Bool.true_or, if_true]
      exact hr _
    | false =>
      simp only [Bool.false_eq_true, if_false, Bool.false_or, ctl_nx]
      exact ih
theorem numD_at2 : ∀ {ds : List D} {k j : Nat} {d : D}, (numD k ds)[j]? = some d → ∃ x, ds[j]? = some x ∧ d = .tup [.int ((k + j : Nat) : Int), x]
  | [], _, _, _, h => by simp [numD] at h
  | x :: ds, k, 0, d, h => by
    simp [numD] at h
    exact ⟨x, rfl, by rw [← h]; simp⟩
  | x :: ds, k, j + 1, d, h => by
    have h : (numD (k + 1) ds)[j]? = some d := by simpa [numD] using h
    obtain ⟨y, h1, h2⟩ := numD_at2 h
    exact ⟨y, by simpa using h1, by rw [h2]; congr 3; omega⟩
theorem enum_nats {l : List Nat} : b1 pyEnum (mlist [.ok (natsL l)]) = .ok (numD 0 (natsD l)) := by rw [c1 (m := pyEnum)]; rfl
theorem enum_any {l : List Nat} {X : Type} {f : D → Unit → Ctl X Unit} {r : Ctl X Unit} (hr : ∀ k : Unit → Ctl X Unit, r.bind k = r) (bad : Nat → Nat → Bool) (h : ∀ j (hj : j < l.length), f (.tup [.int (j : Int), .int (l[j] : Nat)]) () = if bad j l[j] = true then r else .nx ()) :
    forC f (numD 0 (natsD l)) () = if ((List.range l.length).any fun j => bad j (l.getD j 0)) = true then r else .nx () := by
  rw [loop_out hr (fun j => bad j (l.getD j 0)) fun j d hj => ?_]
  · rw [numD_len]
    unfold natsD
    rw [List.length_map]
  · obtain ⟨x, hx, rfl⟩ := numD_at2 hj
    unfold natsD at hx
    rw [List.getElem?_map] at hx
    cases q : l[j]? with
    | none => rw [q] at hx; cases hx
    | some y =>
      rw [q] at hx
      cases hx
      obtain ⟨hj', e⟩ := List.getElem?_eq_some_iff.mp q
      have := h j hj'
      rw [e] at this
      rw [show l.getD j 0 = y by rw [List.getD_eq_getElem?_getD, q]; rfl]
      rw [Nat.zero_add]
      exact this
theorem items_nats {l : List Nat} : pyItems (natsL l) = .ok (natsD l) := rfl
theorem nats_any {l : List Nat} {X : Type} {f : D → Unit → Ctl X Unit} {r : Ctl X Unit} (hr : ∀ k : Unit → Ctl X Unit, r.bind k = r) (bad : Nat → Bool) (h : ∀ x, x ∈ l → f (.int (x : Nat)) () = if bad x = true then r else .nx ()) :
    forC f (natsD l) () = if l.any bad = true then r else .nx () := by
  induction l with
  | nil => rfl
  | cons x l ih =>
    show (f (.int (x : Nat)) ()).bind (forC f (natsD l)) = _
    rw [h x (List.mem_cons_self ..), List.any_cons]
    cases hb : bad x with
    | true =>
      simp only [Bool.true_or, if_true]
      exact hr _
    | false =>
      simp only [Bool.false_eq_true, if_false, Bool.false_or, ctl_nx]
      exact ih fun y hy => h y (List.mem_cons_of_mem _ hy)
theorem take_nats {l : List Nat} {k : Nat} (h : k ≤ l.length) (h2 : k < 1000000) : slM (.ok (natsL l)) (.ok none) (b1 someI (.ok (.int (k : Nat)))) = .ok (natsL (l.take k)) := by
  show M.ok (D.lst (cutD (natsD l) none (some (k : Int)))) = _
  unfold cutD
  have hl : (natsD l).length = l.length := by unfold natsD; rw [List.length_map]
  have e1 : HT.sIx (natsD l).length 0 none = 0 := rfl
  have e2 : HT.sIx (natsD l).length (natsD l).length (some (k : Int)) = k := by
    unfold HT.sIx
    dsimp only
    rw [hl]
    split <;> omega
  rw [e1, e2, List.drop_zero, Nat.sub_zero]
  unfold natsL natsD
  rw [List.map_take]
section
variable {n : Nat} {t : Tn}
theorem turn_t (T : Tb n t) {a b c : Nat} (ha : a < n) (hb : b < n) (hc : c < n) (hab : a ≠ b) (hac : a ≠ c) (hbc : b ≠ c) : b1 m_turn_of (mlist [.ok (strD (lw n t)), .ok (.int (a : Nat)), .ok (.int (b : Nat)), .ok (.int (c : Nat))]) = .ok (.int (t a b c)) := by
  rw [c4 (m := m_turn_of), T.tab.turn ha hb hc hab hac hbc, T.al.tn_eq hab hac hbc]
theorem inside_ok (T : Tb n t) {p a b c : Nat} (hp : p < n) (ha : a < n) (hb : b < n) (hc : c < n) (pa : p ≠ a) (pb : p ≠ b) (pc : p ≠ c) (ab : a ≠ b) (ac : a ≠ c) (bc : b ≠ c) :
    m_is_inside [strD (lw n t), .int (p : Nat), .int (a : Nat), .int (b : Nat), .int (c : Nat)] = .ok (.bl (insT3 t p a b c)) := by
  show (c_is_inside (strD (lw n t)) (.int (p : Nat)) (.int (a : Nat)) (.int (b : Nat)) (.int (c : Nat))).toM = _
  unfold c_is_inside
  rw [turn_t T hp ha hb pa pb ab, turn_t T hp hb hc pb pc bc, turn_t T hp hc ha pc pa (Ne.symm ac)]
  show Ctl.toM (M.bindC ((pyEq (.int (t p a b)) (.int (t p b c))).bind fun z => (isB z).bind fun k => if k = true then (M.ok (D.int (t p c a))).bind fun w => pyEq (.int (t p b c)) w else .ok (.bl false)) () Ctl.ret) = _
  rw [eq_ii, bind_ok, isB_bl, bind_ok]
  unfold insT3
  by_cases h : t p a b = t p b c
  · rw [if_pos (decide_eq_true h), bind_ok, eq_ii, bindC_ok, toM_ret, decide_eq_true h, Bool.true_and]
  · rw [if_neg (by simpa using h), bindC_ok, toM_ret, decide_eq_false h, Bool.false_and]
def insL (t : Tn) (p : Nat) (O : List Nat) : Bool := (List.range O.length).any fun k => (List.range (O.take k).length).any fun j => (O.take j).any fun c => insT3 t p (O.getD k 0) ((O.take k).getD j 0) c
def rimB (t : Tn) (L : List Nat) (p : Nat) : Bool := !insL t p (L.filter fun x => decide (x ≠ p))
theorem insL_iff (al : Alt t) {p : Nat} {O : List Nat} (nd : O.Nodup) (hp : p ∉ O) : insL t p O = true ↔ ∃ a b c, a ∈ O ∧ b ∈ O ∧ c ∈ O ∧ a ≠ b ∧ a ≠ c ∧ b ≠ c ∧ insT3 t p a b c = true := by
  have np : ∀ x, x ∈ O → p ≠ x := fun x hx z => hp (z ▸ hx)
  have gd : ∀ (l : List Nat) k (h : k < l.length), l.getD k 0 = l[k] := fun l k h => by rw [List.getD_eq_getElem?_getD, List.getElem?_eq_getElem h]; rfl
  unfold insL
  simp only [List.any_eq_true, List.mem_range]
  constructor
  · rintro ⟨k, hk, j, hj, c, hc, h⟩
    have hj' : j < k := by rw [List.length_take] at hj; omega
    obtain ⟨i, hi, rfl⟩ := List.mem_iff_getElem.mp hc
    have hi' : i < j := by rw [List.length_take] at hi; omega
    rw [List.getElem_take, gd O k hk, gd _ j hj, List.getElem_take] at h
    refine ⟨O[k], O[j], O[i], List.getElem_mem _, List.getElem_mem _, List.getElem_mem _, fun z => ?_, fun z => ?_, fun z => ?_, h⟩
    · have := nodup_at nd hk (by omega) z; omega
    · have := nodup_at nd hk (by omega) z; omega
    · have := nodup_at nd (i := j) (j := i) (by omega) (by omega) z; omega
  · rintro ⟨a, b, c, ha, hb, hc, ab, ac, bc, h⟩
    obtain ⟨x, hx, rfl⟩ := List.mem_iff_getElem.mp ha
    obtain ⟨y, hy, rfl⟩ := List.mem_iff_getElem.mp hb
    obtain ⟨z, hz, rfl⟩ := List.mem_iff_getElem.mp hc
    have xy : x ≠ y := fun e => ab (by subst e; rfl)
    have xz : x ≠ z := fun e => ac (by subst e; rfl)
    have yz : y ≠ z := fun e => bc (by subst e; rfl)
    have pa := np _ (List.getElem_mem hx)
    have pb := np _ (List.getElem_mem hy)
    have pc := np _ (List.getElem_mem hz)
    have key : ∀ k j i (hk : k < O.length) (hj : j < k) (hi : i < j), insT3 t p O[k] (O[j]'(by omega)) (O[i]'(by omega)) = true → ∃ k, k < O.length ∧ ∃ j, j < (O.take k).length ∧ ∃ c, c ∈ O.take j ∧ insT3 t p (O.getD k 0) ((O.take k).getD j 0) c = true := fun k j i hk hj hi h => by
      have hj2 : j < (O.take k).length := by rw [List.length_take]; omega
      have hi2 : i < (O.take j).length := by rw [List.length_take]; omega
      refine ⟨k, hk, j, hj2, (O.take j)[i], List.getElem_mem _, ?_⟩
      rw [gd O k hk, gd _ j hj2, List.getElem_take, List.getElem_take]
      exact h
    have e1 : insT3 t p O[y] O[z] O[x] = true := by rw [← ins_rot]; exact h
    have e2 : insT3 t p O[z] O[x] O[y] = true := by rw [← ins_rot]; exact e1
    have e3 : insT3 t p O[y] O[x] O[z] = true := by rw [ins_swap al pa pb pc ab ac bc]; exact h
    have e4 : insT3 t p O[x] O[z] O[y] = true := by rw [← ins_rot]; exact e3
    have e5 : insT3 t p O[z] O[y] O[x] = true := by rw [← ins_rot]; exact e4
    rcases Nat.lt_trichotomy x y with q1 | q1 | q1 <;> rcases Nat.lt_trichotomy x z with q2 | q2 | q2 <;> rcases Nat.lt_trichotomy y z with q3 | q3 | q3 <;> first
      | exact absurd q1 xy
      | exact absurd q2 xz
      | exact absurd q3 yz
      | (exfalso; omega)
      | exact key x y z hx (by omega) (by omega) h
      | exact key x z y hx (by omega) (by omega) e4
      | exact key y x z hy (by omega) (by omega) e3
      | exact key y z x hy (by omega) (by omega) e1
      | exact key z x y hz (by omega) (by omega) e2
      | exact key z y x hz (by omega) (by omega) e5
theorem rimB_iff (al : Alt t) {L : List Nat} (nd : L.Nodup) {p : Nat} : rimB t L p = true ↔ Rim t L p := by
  have hm : ∀ a, a ∈ L.filter (fun y => decide (y ≠ p)) ↔ a ∈ L ∧ a ≠ p := fun a => by rw [List.mem_filter, decide_eq_true_eq]
  have hi := insL_iff al (p := p) (nd.filter fun y => decide (y ≠ p)) (fun z => ((hm p).mp z).2 rfl)
  unfold rimB
  rw [Bool.not_eq_true']
  constructor
  · intro h a b c ha hb hc pa pb pc ab ac bc
    cases e : insT3 t p a b c with
    | false => rfl
    | true =>
      rw [hi.mpr ⟨a, b, c, (hm a).mpr ⟨ha, pa⟩, (hm b).mpr ⟨hb, pb⟩, (hm c).mpr ⟨hc, pc⟩, ab, ac, bc, e⟩] at h
      cases h
  · intro R
    cases e : insL t p (L.filter fun x => decide (x ≠ p)) with
    | false => rfl
    | true =>
      obtain ⟨a, b, c, ha, hb, hc, ab, ac, bc, k⟩ := hi.mp e
      obtain ⟨a1, a2⟩ := (hm a).mp ha
      obtain ⟨b1, b2⟩ := (hm b).mp hb
      obtain ⟨c1, c2⟩ := (hm c).mp hc
      rw [R a b c a1 b1 c1 a2 b2 c2 ab ac bc] at k
      cases k
theorem filter_ne_comp {L : List Nat} {p : Nat} (hl : L.length < 1000000) : lcM (b1 pyItems (.ok (natsL L))) (fun v2_post => elM (b1 isB (b2 pyNe (.ok v2_post) (.ok (.int (p : Nat))))) (.ok v2_post)) = .ok (natsL (L.filter fun x => decide (x ≠ p))) := by
  refine lcM_ok (ds := natsD L) rfl (compL_map (fun x : Nat => D.int x) (fun x => if x ≠ p then [D.int x] else []) fun x _ => ?_) ?_ |>.trans ?_
  · rw [b2_ok, ne_nat, b1_ok, isB_bl]
    by_cases h : x ≠ p
    · rw [if_pos h, decide_eq_true h]; exact elM_t rfl
    · rw [if_neg h, decide_eq_false h]; exact elM_f
  · have := len_flat (g := fun x : Nat => if x ≠ p then [D.int x] else []) (k := 1) (l := L) fun x _ => by split <;> simp
    omega
  · refine congrArg (fun l => M.ok (D.lst l)) ?_
    unfold natsD
    clear hl
    induction L with
    | nil => rfl
    | cons x L ih =>
      rw [List.flatMap_cons, ih, List.filter_cons]
      by_cases h : x ≠ p
      · rw [if_pos h, if_pos (decide_eq_true h)]; rfl
      · rw [if_neg h, if_neg (by simpa using h)]; rfl
theorem on_rim_ok (T : Tb n t) {L : List Nat} (nd : L.Nodup) (hL : ∀ x, x ∈ L → x < n) (hl : L.length < 1000) {p : Nat} (hp : p < n) : m_on_rim [strD (lw n t), natsL L, .int (p : Nat)] = .ok (.bl (rimB t L p)) := by
  show (c_on_rim (strD (lw n t)) (natsL L) (.int (p : Nat))).toM = _
  unfold c_on_rim
  rw [filter_ne_comp (by omega), bindC_ok, enum_nats, bindC_ok]
  have hO : ∀ x, x ∈ L.filter (fun y => decide (y ≠ p)) → x < n ∧ p ≠ x := fun x hx => by
    rw [List.mem_filter, decide_eq_true_eq] at hx
    exact ⟨hL x hx.1, fun z => hx.2 z.symm⟩
  have ndO := nd.filter (fun y => decide (y ≠ p))
  have lO : (L.filter fun y => decide (y ≠ p)).length < 1000 := Nat.lt_of_le_of_lt (List.length_filter_le _ _) hl
  unfold rimB insL
  generalize L.filter (fun y => decide (y ≠ p)) = O at *
  rw [enum_any (l := O) (r := (.ret (.bl false) : Ctl Unit Unit)) (fun _ => rfl) (fun k a => (List.range (O.take k).length).any fun j => (O.take j).any fun c => insT3 t p a ((O.take k).getD j 0) c) fun k hk => ?_]
  · cases (List.range O.length).any _ <;> rfl
  · rw [un2_t, take_nats (by omega) (by omega), enum_nats, bindC_ok]
    rw [enum_any (l := O.take k) (r := (.ret (.bl false) : Ctl Unit Unit)) (fun _ => rfl) (fun j b => (O.take j).any fun c => insT3 t p O[k] b c) fun j hj => ?_]
    · cases (List.range (O.take k).length).any _ <;> rfl
    · have hj' : j < k := by rw [List.length_take] at hj; omega
      rw [un2_t, take_nats (by omega) (by omega), b1_ok, items_nats, bindC_ok]
      rw [nats_any (l := O.take j) (r := (.ret (.bl false) : Ctl Unit Unit)) (fun _ => rfl) (fun c => insT3 t p O[k] (O.take k)[j] c) fun c hc => ?_]
      · cases (O.take j).any _ <;> rfl
      · obtain ⟨i, hi, rfl⟩ := List.mem_iff_getElem.mp hc
        have hi' : i < j := by rw [List.length_take] at hi; omega
        rw [List.getElem_take, List.getElem_take]
        have k1 := hO _ (List.getElem_mem (show k < O.length from hk))
        have k2 := hO _ (List.getElem_mem (show j < O.length by omega))
        have k3 := hO _ (List.getElem_mem (show i < O.length by omega))
        rw [c5 (m := m_is_inside), inside_ok T hp k1.1 k2.1 k3.1 k1.2 k2.2 k3.2 (fun z => by have := nodup_at ndO hk (by omega) z; omega) (fun z => by have := nodup_at ndO hk (by omega) z; omega) (fun z => by have := nodup_at ndO (i := j) (j := i) (by omega) (by omega) z; omega), b1_ok, truth_b, bindC_ok]
        cases insT3 t p O[k] O[j] O[i] <;> rfl
end
end Mir
namespace Mir
open PySem PySem.Spec L2
open PyProof.Rows (envOfC)
def spB (G : GG) (m : List D → M D) : Sp := fun vs H Q E => ∃ S ds, Ex S H ∧ Reps G S vs ds ∧ Po G E S H (fun d S' H' => ∀ p, S' p = none → H p = none → OwnAt G H S' H' p d → Q (.ref p) H') (m ds)
def KnB (G : GG) (k : Nat) (x : Str) (m : List D → M D) : Prop := ∃ f fd ps j, j ≤ k ∧ FnOk G.P G.w G.K G.mg G.base (L2.CX G.P G.w) j f fd ps (spB G m) ∧ G.mg x = some (.ref f) ∧ PySem.W.keepIn G.K (.ref f) = true ∧ Binds G.K fd ps []
theorem KnB.mono {G : GG} {j k : Nat} {x : Str} {m : List D → M D} (h : KnB G j x m) (l : j ≤ k) : KnB G k x m := by
  obtain ⟨f, fd, ps, i, hi, r⟩ := h
  exact ⟨f, fd, ps, i, Nat.le_trans hi l, r⟩
section
variable {F : Fm} {Γ : Gam} {e : Expr} {es : List Expr} {pos : Pos}
end
def PoL (G : GG) (E : XK) (S H : Hp) (p : Addr) (c : Nat) (fs : FsD) (Q : V → Hp → Prop) : M (FsD × List D) → Prop
  | .stk => False
  | .exn e => ∀ cls dd S' H', Grow S H S' H' → S' p = none → OwnAt G H S' H' p (.obj c fs) → RepX G S' cls dd e → E cls dd H'
  | .ok r => ∀ S' H' q, Grow S H S' H' → S' p = none → OwnAt G H S' H' p (.obj c r.1) → S' q = none → H q = none → q ≠ p → OwnAt G H S' H' q (.lst r.2) → Q (.ref q) H'
def spL (G : GG) (c : Nat) (m : FsD → List D → M (FsD × List D)) : Sp := fun vs H Q E => ∃ (S : Hp) (p dx : Addr) (ws : List (Str × V)) (fs : FsD) (us : List V) (ds : List D), vs = V.ref p :: us ∧ Ex S H ∧ S p = none ∧ S dx = none ∧ H p = some (.ins (G.ca c) dx ws) ∧ H dx = some (.own p) ∧ ws.map (·.1) = fs.map (·.1) ∧ Reps G S (ws.map (·.2)) (fs.map (·.2)) ∧ Reps G S us ds ∧ PoL G E S (minus2 H p dx) p c fs Q (m fs ds)
end Mir
namespace Mir
open PySem PySem.Spec L2
open PyProof.Rows (envOfC)
def pin (p : Addr) : D → D
  | .obj c fs => .slf p c fs
  | d => d
section
variable {F : Fm} {Γ : Gam} {a b e : Expr} {es rest : List Expr} {pos p1 : Pos} {i : Nat} {w : D → D}
def ChPo {α : Type} (F : Fm) (Γ : Gam) (i : Nat) (w : D → D) (σ : L2.St) (S0 H0 : Hp) (K : α → Hp → Hp → Prop) : M (D × α) → Prop
  | .stk => False
  | .exn e => ∀ cls dd S' H', Grow S0 H0 S' H' → Holds F.G H0 σ S' H' Γ → RepX F.G S' cls dd e → F.W cls dd σ H'
  | .ok r => ∀ S' H', Grow S0 H0 S' H' → Holds F.G H0 σ S' H' (Γ.set i (Sl.own (w r.1))) → K r.2 S' H'
def EvX (F : Fm) (te : TE) (Γ : Gam) (i : Nat) (w : D → D) (m : M (D × D)) : Prop := ∀ S0 H0 σ S H Q, Grow S0 H0 S H → Holds F.G H0 σ S H Γ → ChPo F Γ i w σ S0 H0 (fun d S' H' => ∀ v, Rep F.G S' v d → Q v H') m → te σ H Q
def EX (F : Fm) (e : Expr) (Γ : Gam) (i : Nat) (w : D → D) (m : M (D × D)) : Prop := ∃ t, (∀ X, F.Xs X → PE X e t) ∧ EvX F t Γ i w m
def EvXT (F : Fm) (tt : TT) (Γ : Gam) (i : Nat) (w : D → D) (m : M (D × Bool)) : Prop := ∀ S0 H0 σ S H Q, Grow S0 H0 S H → Holds F.G H0 σ S H Γ → ChPo F Γ i w σ S0 H0 (fun b _ H' => Q b H') m → tt σ H Q
def WXt (F : Fm) (e : Expr) (Γ : Gam) (i : Nat) (w : D → D) (m : M (D × Bool)) : Prop := ∃ t, (∀ X, F.Xs X → PW X e t) ∧ EvXT F t Γ i w m
section
variable {m : M (D × D)} {mt : M (D × Bool)}
def cW (F : Fm) (e : Expr) : TT := fun σ H Q => ∃ t, (∀ X, F.Xs X → PW X e t) ∧ t σ H Q
theorem WXt.c (h : WXt F e Γ i w mt) : EvXT F (cW F e) Γ i w mt := let ⟨t, p, q⟩ := h; fun S0 H0 σ S H Q g hh po => ⟨t, p, q S0 H0 σ S H Q g hh po⟩
theorem EX.c (h : EX F e Γ i w m) : EvX F (cE F e) Γ i w m := let ⟨t, p, q⟩ := h; fun S0 H0 σ S H Q g hh po => ⟨t, p, q S0 H0 σ S H Q g hh po⟩
end
section
variable {S0 H0 : Hp} {Dn : Ends} {X S : Type} {fx : X → Gam} {fs : S → Gam} {x0 : X} {σ : L2.St} {A restS : List Stmt} {m : M (D × D)} {mt : M (D × Bool)}
def retO {X S : Type} (d : D) (a : D) : Ctl X S := match d with
  | .obj _ _ => .ret (.tup [a, d])
  | _ => .stk
theorem noNx_retO {d a : D} : (retO d a : Ctl X S).noNx := fun s => by
  cases d <;> (intro z; cases z)
end
end
end Mir
namespace Mir
open PySem PySem.Spec L2
open PyProof.Rows (envOfC)
def KnW (G : GG) (k c : Nat) (x : Str) (m : FsD → List D → M (FsD × Option D)) : Prop := ∃ f fd ps j, j ≤ k ∧ FnOk G.P G.w G.K G.mg G.base (L2.CX G.P G.w) j f fd ps (spO G c m) ∧ G.mg x = some (.ref f) ∧ PySem.W.keepIn G.K (.ref f) = true ∧ Binds G.K fd ps []
theorem KnW.mono {G : GG} {j k c : Nat} {x : Str} {m : FsD → List D → M (FsD × Option D)} (h : KnW G j c x m) (l : j ≤ k) : KnW G k c x m := by
  obtain ⟨f, fd, ps, i, hi, r⟩ := h
  exact ⟨f, fd, ps, i, Nat.le_trans hi l, r⟩
section
variable {F : Fm} {Γ : Gam} {es : List Expr} {pos p3 : Pos} {ml : M (List D)} {i c : Nat} {w : FsD → D} {fs : FsD} {m : FsD → List D → M (FsD × Option D)} {n x : Str}
end
end Mir
namespace Mir
open PySem PySem.Spec L2
open PyProof.Rows (envOfC)
structure MetLK (G : GG) (lev c : Nat) (name kw : Str) (m : FsD → List D → M (FsD × List D)) : Prop where
  ex : ∃ f fd ps j, j ≤ lev ∧ FnOk G.P G.w G.K G.mg G.base (L2.CX G.P G.w) j f fd ps (spL G c m) ∧ Meth G.K (G.ca c) name f ∧ Cls G.K (G.ca c) ∧ KBn G.K fd ps 1 [kw] (fun us ws => us ++ ws) (fun vs zs => vs ++ zs) ∧ ps.length = 2
theorem MetLK.mono {G : GG} {j k c : Nat} {x kw : Str} {m : FsD → List D → M (FsD × List D)} (h : MetLK G j c x kw m) (l : j ≤ k) : MetLK G k c x kw m := by
  obtain ⟨f, fd, ps, i, hi, r⟩ := h.ex
  exact ⟨f, fd, ps, i, Nat.le_trans hi l, r⟩
section
variable {F : Fm} {Γ : Gam} {e : Expr} {me : M D} {pos apos p3 kp : Pos} {i c : Nat} {w : D → D} {m : FsD → List D → M (FsD × List D)} {name n kw : Str} {rest : List Stmt} {X S : Type} {fx : X → Gam} {fs : S → Gam} {x0 : X}
end
end Mir
namespace Mir
open PySem PySem.Spec L2
open PyProof.Rows (envOfC)
section
variable {F : Fm} {Γ : Gam} {X S : Type} {fx : X → Gam} {fs : S → Gam} {x0 : X} {rest : List Stmt} {pos : Pos} {w : D → D}
end
section
variable {F : Fm} {Γ : Gam} {X S : Type} {fx : X → Gam} {fs : S → Gam} {x0 : X} {rest : List Stmt} {pos : Pos} {e : Expr} {m : M (FsD × D)} {w : FsD → D}
end
theorem SetiK.mono {G : GG} {j k c : Nat} {m : FsD → List D → M (FsD × Option D)} (h : SetiK G j c m) (l : j ≤ k) : SetiK G k c m := by
  obtain ⟨f, i, hi, r⟩ := h.ex
  exact ⟨f, i, Nat.le_trans hi l, r⟩
theorem IaddK.mono {G : GG} {j k c : Nat} {m : FsD → List D → M (FsD × Option D)} (h : IaddK G j c m) (l : j ≤ k) : IaddK G k c m := by
  obtain ⟨f, i, hi, r⟩ := h.ex
  exact ⟨f, i, Nat.le_trans hi l, r⟩
end Mir
namespace Mir
open PySem PySem.Spec L2
open PyProof.Rows (envOfC)
section
variable {F : Fm} {Γ : Gam} {X S : Type} {fx : X → Gam} {fs : S → Gam} {x0 : X} {e1 e2 : Expr} {pos lp p' : Pos} {rest : List Stmt} {m1 m2 : M D}
end
section
variable {F : Fm} {Γ : Gam} {e eo : Expr} {es : List Expr} {pos apos : Pos} {ml : M (List D)} {i c : Nat} {p0 : Addr} {fs : FsD} {m : FsD → List D → M (FsD × Option D)} {name : Str}
end
section
variable {F : Fm} {Γ : Gam} {e : Expr} {i j1 j2 : Nat} {q1 q2 : Addr} {a b : D}
end
end Mir
namespace Mir
open PySem PySem.Spec L2
open PyProof.Rows (envOfC)
def allB (f : Value → D → Bool) : List Value → List D → Bool
  | [], [] => true
  | u :: us, d :: ds => f u d && allB f us ds
  | _, _ => false
def kdtB (K : PySem.W.Frag) : Nat → Value → D → Bool
  | 0, _, _ => false
  | n + 1, u, d => match u, d with
    | .int i _, .int j => decide (i = j)
    | .ref p, .ktp ds => (match K.lookup p with
      | some ⟨.type t, _, .seq its _, _⟩ => t == "tuple" && decide (its.size ≤ sizeLine) && allB (kdtB K n) its.toList ds
      | _ => false)
    | _, _ => false
def entP (K : PySem.W.Frag) : List DictEntry → List (Int × D) → Bool
  | [], [] => true
  | e :: es, (k, d) :: r => (match e.key with | .int i _ => decide (i = k) | _ => false) && decide (e.hash = hashInt k) && kdtB K 6 e.val d && entP K es r
  | _, _ => false
def kdpOk (K : PySem.W.Frag) (a : Addr) (kvs : List (Int × D)) : Bool := match K.lookup a with
  | some ⟨.type t, none, .dict es _, sl⟩ => t == "dict" && sl.toList.isEmpty && entP K es.toList kvs && !(a == sysModules) && decide ((kvs.map (·.1)).Nodup)
  | _ => false
structure KdP (G : GG) (x : Str) (kvs : List (Int × D)) : Prop where
  ex : ∃ a, G.mg x = some (.ref a) ∧ kdpOk G.K a kvs = true
  db : (x == ("__debug__" : Str)) = false
section
variable {F : Fm} {Γ : Gam} {b : Expr} {mb : M D} {x : Str} {kvs : List (Int × D)} {pos p : Pos}
end
section
variable {F : Fm}
end
end Mir
namespace Mir
open PySem PySem.Spec L2
end Mir
namespace Mir
open PySem PySem.Spec L2
open PySem.SeqAt
section
variable {G : GG} {S : Hp} {H : Hp} {X : Cx} {pins : List (Addr × Obj)} {σ : L2.St} {s : Shared} {A : Around}
end
section
variable {F : Fm}
end
end Mir
namespace Mir
open PySem PySem.Spec L2
def c_l_nested (p_pool_here p_at p_posts p_shrink : D) : Ctl Unit Unit := M.bindC (b1 mkLst (mlist [])) () fun v1_places => M.bindC (b1 pyRange1 (mlist [.ok p_posts])) () fun v14_ds => (forC (X := Unit) (S := D) (fun v3_k (v2_j : D) => M.bindC (.ok (.int 1000)) () fun v4_wide => (M.bindC (andM (b1 pyTruth (.ok p_shrink)) (b1 isB (b2 pyGe (.ok v3_k) (.ok (.int 3))))) () fun c => if c = true then (M.bindC (b2 pyIx (b1 mkLst (mlist [.ok (.int 400), .ok (.int 90)])) (b1 pyInt (mlist [b2 pyGe (.ok v3_k) (.ok (.int 6))]))) () fun v6_wide => .nx v6_wide) else (.nx v4_wide) : Ctl Unit D).bind fun (v5_j : D) => M.bindC (b2 pyAdd (b1 m_l_draw (mlist [.ok p_pool_here, b2 pyAdd (.ok p_at) (b2 pyMul (.ok (.int 2)) (.ok v3_k)), .ok v5_j])) (b2 pyDiv (b2 pySub (.ok (.int 1000)) (.ok v5_j)) (.ok (.int 2)))) () fun v7_x => M.bindC (b2 pyAdd (b1 m_l_draw (mlist [.ok p_pool_here, b2 pyAdd (b2 pyAdd (.ok p_at) (b2 pyMul (.ok (.int 2)) (.ok v3_k))) (.ok (.int 1)), .ok v5_j])) (b2 pyDiv (b2 pySub (.ok (.int 1000)) (.ok v5_j)) (.ok (.int 2)))) () fun v8_y => M.bindC (b1 pyRange1 (mlist [.ok (.int 60)])) () fun v13_ds => (forC (X := Unit) (S := D) (fun v10_j (v9_j : D) => (M.bindC (nofs (andM (b1 isB (b2 pyEq (b1 pyLen (mlist [.ok v9_j])) (.ok v3_k))) (b1 pyTruth (b1 m_l_free (mlist [.ok v9_j, b1 mkTup (mlist [b2 pyAdd (.ok v7_x) (.ok v10_j), b2 pyAdd (.ok v8_y) (b2 pyMul (.ok v10_j) (.ok v10_j))])]))))) () fun c => if c = true then (M.bindC (appM v9_j (b1 mkTup (mlist [b2 pyAdd (.ok v7_x) (.ok v10_j), b2 pyAdd (.ok v8_y) (b2 pyMul (.ok v10_j) (.ok v10_j))]))) () fun v12_places => .nx v12_places) else (.nx v9_j) : Ctl Unit D).bind fun (v11_j : D) => .nx v11_j) v13_ds v2_j).bind fun (v9_j : D) => .nx v9_j) v14_ds v1_places).bind fun (v2_j : D) => M.bindC (.ok v2_j) () Ctl.ret
def m_l_nested : List D → M D := ar4 c_l_nested
def c_l_next (p_turns_here p_group p_p : D) : Ctl Unit Unit := M.bindC (b1 pyItems (.ok p_group)) () fun v6_ds => (forC (X := Unit) (S := Unit) (fun v2_q (v1_j : Unit) => (M.bindC (b1 isB (b2 pyNe (.ok v2_q) (.ok p_p))) () fun c => if c = true then (M.bindC (lcM (b1 pyItems (.ok p_group)) (fun v5_r => elM (andM (b1 isB (b2 pyNe (.ok v5_r) (.ok p_p))) (b1 isB (b2 pyNe (.ok v5_r) (.ok v2_q)))) (b2 pyIx (.ok p_turns_here) (b1 mkTup (mlist [.ok p_p, .ok v2_q, .ok v5_r]))))) () fun v4_signs => M.bindC (b1 isB (b2 (memD true) (b1 pyNeg (.ok (.int 1))) (.ok v4_signs))) () fun c => if c = true then (M.bindC (.ok v2_q) () Ctl.ret) else .nx ()) else (.nx ()) : Ctl Unit Unit).bind fun (v3_j : Unit) => .nx ()) v6_ds ()).bind fun (v1_j : Unit) => M.bindC (b1 pyNeg (.ok (.int 1))) () Ctl.ret
def m_l_next : List D → M D := ar3 c_l_next
def c_l_round (p_turns_here p_group : D) : Ctl Unit Unit := M.bindC (b1 isB (b2 pyLt (b1 pyLen (mlist [.ok p_group])) (.ok (.int 3)))) () fun c => if c = true then (M.bindC (.ok p_group) () Ctl.ret) else M.bindC (b2 pyIx (lcM (b1 pyItems (.ok p_group)) (fun v2_p => elM (b1 isB (b2 pyGe (b1 m_l_next (mlist [.ok p_turns_here, .ok p_group, .ok v2_p])) (.ok (.int 0)))) (.ok v2_p))) (.ok (.int 0))) () fun v1_first => M.bindC (b1 mkLst (mlist [.ok v1_first])) () fun v3_rim => M.bindC (b1 pyRange1 (mlist [b1 pyLen (mlist [.ok p_group])])) () fun v9_ds => (forC (X := Unit) (S := D) (fun v5_k (v4_j : D) => M.bindC (flatM (b1 m_l_next (mlist [.ok p_turns_here, .ok p_group, b2 pyIx (.ok v4_j) (b1 pyNeg (.ok (.int 1)))]))) () fun v6_q => (M.bindC (nofs (andM (b1 isB (b2 pyNe (.ok v6_q) (.ok v1_first))) (b1 isB (b2 pyEq (b1 pyLen (mlist [.ok v4_j])) (b2 pyAdd (.ok v5_k) (.ok (.int 1))))))) () fun c => if c = true then (M.bindC (appM v4_j (.ok v6_q)) () fun v8_rim => .nx v8_rim) else (.nx v4_j) : Ctl Unit D).bind fun (v7_j : D) => .nx v7_j) v9_ds v3_rim).bind fun (v4_j : D) => M.bindC (.ok v4_j) () Ctl.ret
def m_l_round : List D → M D := ar2 c_l_round
end Mir
set_option maxHeartbeats 1000000
namespace Mir
open PySem PySem.Spec L2
open PyProof.Rows (envOfC)
theorem run_app {X : Cx} {F : Fm} (hX : F.Xs X) {sts a b : List Stmt} {Γ : Gam} {o : Out} {tr : TS} (e : sts = a ++ b) (h : BM F a Γ o) (hr : PSs X b tr) :
    ∃ t, PSs X sts t ∧ ∀ S0 H0 Dn σ S H, Grow S0 H0 S H → Holds F.G H0 σ S H Γ → OPo F S0 H0 { Dn with nx := tr Dn } o → t Dn σ H := by
  obtain ⟨t, p, q⟩ := h
  subst e
  exact ⟨_, pss_app (p X hX) hr, fun S0 H0 Dn σ S H g hh po => q S0 H0 _ σ S H g hh po⟩
section
variable {G : GG} {S : Hp}
theorem repsN : ∀ {ns : List Int} {vs : List V}, Reps G S vs (ns.map D.int) → vs = ns.map V.int
  | [], _, .nil => rfl
  | n :: ns, _, .cons h r => by
    cases h
    rw [repsN r]
    rfl
theorem nReps : ∀ (ns : List Int), Reps G S (ns.map V.int) (ns.map D.int)
  | [] => .nil
  | n :: ns => .cons (.int n) (nReps ns)
end
def befM (l f o : D) : M D := dcM (b1 pyItems (.ok o)) (fun v5_q => elK (.ok true) (.ok v5_q) (b1 pyLen (mlist [lcM (b1 pyItems (.ok o)) (fun v6_r => elM (andM (b1 isB (b2 pyNe (.ok v6_r) (.ok v5_q))) (b1 isB (b2 pyEq (b1 m_turn_of (mlist [.ok l, .ok f, .ok v6_r, .ok v5_q])) (.ok (.int 1))))) (.ok v6_r))])))
def unHd {α : Type} (x : α) (t : D) (k : D → List D → α) : α := match t with
  | .lst (a :: r) => k a r
  | _ => x
theorem tgStarL_at {g : List D → Gam → Option Gam} {a : D} {r : List D} {Γ : Gam} : tgStarL 1 g (.lst (a :: r)) Γ = g [a, .lst r] Γ := by
  show (if 1 ≤ (a :: r).length then g ((a :: r).take 1 ++ [.lst ((a :: r).drop 1)]) Γ else none) = _
  rw [if_pos (by rw [List.length_cons]; omega)]
  rfl
structure IroOk (l rim : D) (row : List Int) : Prop where
  ex : ∃ (z : Int) (ns : List Int) (kvs : List (Key × D)) (kf : Int → Int), rim = .lst (.int z :: ns.map D.int) ∧ befM l (.int z) (.lst (ns.map D.int)) = .ok (.dks kvs) ∧ (∀ x ∈ ns, valD kvs (.inl x) = some (.int (kf x))) ∧ row = z :: sortK kf ns ∧ ns.length + 1 ≤ sizeLine
def spIro (G : GG) (T : List (Addr × Str)) : Sp := fun vs H Q E => ∃ S l rim row, Ex S H ∧ Reps G S vs [l, rim] ∧ IroOk l rim row ∧ LamX.Tabs T H ∧ ∀ p H', H p = none → ExtT H H' → LamX.Tabs T H' → H' p = some (.lst (row.map V.int)) → Q (.ref p) H'
theorem run_sorted {F : Fm} {X : Cx} {T : List (Addr × Str)} {Γ : Gam} {i : Nat} {e1 : Expr} {te : TE} {z : Int} {ns : List Int} {kvs : List (Key × D)} {kf : Int → Int} {H0 H S1 H1 : Hp} {σ : L2.St} {Q : VK}
    (h1 : EM F e1 Γ (.ok (.lst [.int z]))) (h2 : EvM F te Γ (.ok (.lst (ns.map D.int)))) (hK : X.K = F.G.K) (hH : X.H_0 = H) (hd : Γ[i]? = some (.val (.dks kvs))) (hk : ∀ x ∈ ns, valD kvs (.inl x) = some (.int (kf x))) (hz : ns.length + 1 ≤ sizeLine)
    (hh : Holds F.G H0 σ S1 H1 Γ) (hT : LamX.Tabs T H1) (e0 : Ex H H1) (po : ∀ p H', H p = none → ExtT H H' → LamX.Tabs T H' → H' p = some (.lst ((z :: sortK kf ns).map V.int)) → Q (.ref p) H') :
    (tOp rCat (cE F e1) (tSortL X.K X.H_0 T i te)) σ H1 Q := by
  refine h1.c H0 σ S1 H1 _ hh fun S2 H2 g2 v rv => ?_
  refine h2 H0 σ S2 H2 _ (hh.grow g2) fun S3 H3 g3 u ru => ?_
  have g := g2.trans g3
  have rv := rv.mono g3.s
  cases rv with
  | @lst a vs _ ha ra =>
  cases ru with
  | @lst b us _ hb rb =>
  obtain rfl : vs = [V.int z] := repsN (ns := [z]) ra
  obtain rfl := repsN rb
  obtain ⟨vd, hσ, rd⟩ := hh.val i _ hd
  have rd := rd.mono g.s
  cases rd with
  | @dks dp ks _ hr hn rs =>
  have ha3 := g3.sub _ _ ha
  refine ⟨b, dp, ns, ks, kf, rfl, .inl (.inl (g3.sub _ _ hb)), hσ, ex_rd g3.sub hr, fun x hx => ?_, hT.ext g.h, fun H4 p eN tK T4 hp => ?_⟩
  · obtain ⟨w, e, rw_⟩ := valD_find hn rs (hk x hx)
    cases rw_
    exact e
  · have ha4 : H4 a = some (.lst [V.int z]) := eN _ _ ha3 (fun _ q => by cases q)
    have hap : a ≠ p := ne_of_none ha4 hp
    have hlen : (sortK kf ns).length = ns.length := by unfold sortK; rw [List.length_mergeSort]
    refine ⟨a, p, [V.int z], (sortK kf ns).map V.int, rfl, rfl, by rw [upd_ne hap]; exact ha4, upd_same, by rw [List.length_map, hlen]; simp; omega, fun q hq => ?_⟩
    have hqp : q ≠ p := fun w => by rw [w, upd_same] at hq; cases hq
    have hq4 : H4 q = none := by rw [upd_ne hqp] at hq; exact hq
    have e4 : ExtT H H4 := ⟨(LamX.ExtN.of (e0.trans g.h)).trans eN, by rw [← hH]; exact tK⟩
    refine po q _ (e4.non hq4) ((e4.put (e4.non hp)).put (e4.non hq4)) (tabs_new (tabs_new T4 hp) hq) ?_
    rw [upd_same]
    simp
end Mir
set_option maxHeartbeats 1000000
namespace Mir
open PySem PySem.Spec L2
open PyProof.Rows (envOfC)
def cA (F : Fm) (es : List Expr) : TA := fun σ H Q => ∃ t, (∀ X, F.Xs X → PA X es t) ∧ t σ H Q
theorem cA_ok {F : Fm} {es : List Expr} (X : Cx) (hX : F.Xs X) : PA X es (cA F es) := ⟨fun pos pins s σ H Q I ⟨_, ht, h⟩ => (ht X hX).run pos pins s σ H Q I h⟩
theorem AM.c {F : Fm} {es : List Expr} {Γ : Gam} {m : M (List D)} (h : AM F es Γ m) : EvA F (cA F es) Γ m := let ⟨t, p, q⟩ := h; fun H0 σ S H Q hh po => ⟨t, p, q H0 σ S H Q hh po⟩
def rimM (d L : D) : M D := lcM (b1 pyItems (.ok L)) (fun v3_p => elM (b1 pyTruth (b1 m_on_rim (mlist [b1 (pyFld 1 "letters") (.ok d), .ok L, .ok v3_p]))) (.ok v3_p))
def leftM (L rim : D) : M D := lcM (b1 pyItems (.ok L)) (fun v6_p => elM (b1 isB (b2 (memD true) (.ok v6_p) (.ok rim))) (.ok v6_p))
inductive Rims (d : D) : List Int → List (List Int) → Prop
  | nil : Rims d [] []
  | cons {L L' row : List Int} {rows : List (List Int)} {rim l : D} : L ≠ [] → rimM d (.lst (L.map D.int)) = .ok rim → b1 (pyFld 1 "letters") (.ok d) = .ok l → IroOk l rim row → leftM (.lst (L.map D.int)) rim = .ok (.lst (L'.map D.int)) → Rims d L' rows → Rims d L (row :: rows)
structure RowsAt (H H' : Hp) (as : List Addr) (rows : List (List Int)) : Prop where
  len : as.length = rows.length
  at_ : ∀ (i : Nat) a r, as[i]? = some a → rows[i]? = some r → H' a = some (.lst (r.map V.int))
  new : ∀ a, a ∈ as → H a = none
  nd : as.Nodup
theorem RowsAt.nil {H H' : Hp} : RowsAt H H' [] [] := ⟨rfl, fun i a r e => (by simp at e), fun a h => (by cases h), List.nodup_nil⟩
theorem RowsAt.there {H H' : Hp} {as : List Addr} {rows : List (List Int)} (R : RowsAt H H' as rows) {a : Addr} (h : a ∈ as) : ∃ r : List Int, H' a = some (.lst (r.map V.int)) := by
  obtain ⟨i, hi, e⟩ := List.mem_iff_getElem.mp h
  have hr : i < rows.length := by rw [← R.len]; exact hi
  exact ⟨_, R.at_ i a _ (by rw [List.getElem?_eq_getElem hi, e]) (List.getElem?_eq_getElem hr)⟩
theorem RowsAt.keep {H H' H2 : Hp} {as : List Addr} {rows : List (List Int)} (R : RowsAt H H' as rows) (k : ∀ a, a ∈ as → ∀ xs, H' a = some (.lst xs) → H2 a = some (.lst xs)) : RowsAt H H2 as rows :=
  ⟨R.len, fun i a r e1 e2 => k a (List.mem_of_getElem? e1) _ (R.at_ i a r e1 e2), R.new, R.nd⟩
theorem RowsAt.snoc {H H' : Hp} {as : List Addr} {rows : List (List Int)} {a : Addr} {row : List Int} (R : RowsAt H H' as rows) (h : H' a = some (.lst (row.map V.int))) (n : H a = none) (na : a ∉ as) : RowsAt H H' (as ++ [a]) (rows ++ [row]) := by
  refine ⟨by simp [R.len], fun i b r e1 e2 => ?_, fun b hb => ?_, ?_⟩
  · by_cases hi : i < as.length
    · rw [List.getElem?_append_left hi] at e1
      rw [List.getElem?_append_left (by rw [← R.len]; exact hi)] at e2
      exact R.at_ i b r e1 e2
    · rw [List.getElem?_append_right (by omega)] at e1
      rw [List.getElem?_append_right (by rw [← R.len]; omega), ← R.len] at e2
      by_cases z : i - as.length = 0
      · rw [z] at e1 e2
        cases e1
        cases e2
        exact h
      · rw [List.getElem?_eq_none (by simp; omega)] at e1
        cases e1
  · rcases List.mem_append.mp hb with q | q
    · exact R.new b q
    · rw [List.mem_singleton.mp q]; exact n
  · exact List.nodup_append.mpr ⟨R.nd, by simp, fun x hx y hy => by rw [List.mem_singleton.mp hy]; exact fun z => na (by rw [← z]; exact hx)⟩
def spRims (G : GG) (T : List (Addr × Str)) : Sp := fun vs H Q E => ∃ S d L rows, Ex S H ∧ Reps G S vs [d] ∧ b1 pyListRg (b1 (pyFld 1 "posts") (.ok d)) = .ok (.lst (L.map D.int)) ∧ Rims d L rows ∧ rows.length < sizeLine ∧ LamX.Tabs T H ∧
  ∀ p as H', H p = none → p ∉ as → ExtT H H' → LamX.Tabs T H' → H' p = some (.lst (as.map V.ref)) → RowsAt H H' as rows → Q (.ref p) H'
abbrev appT (F : Fm) (T : List (Addr × Str)) (es : List Expr) : TE := tBM F.G.K "list" rAppend (tVar 2) (tCons (tCallS (spIro F.G T) (WE F.W) (cA F es)) tNil)
def bodyT (F : Fm) (T : List (Addr × Str)) (stA : Stmt) (es : List Expr) (stC : Stmt) : TS := fun D σ H => cB F [stA] { D with nx := tSeq (tDrop (appT F T es)) (cB F [stC]) D } σ H
theorem v3 {a b c : D} : Vals0 [.val a, .val b, .val c, .unk, .unk] := vals0_val (vals0_val (vals0_val (vals0_unk (vals0_unk vals0_nil))))
theorem v4 {a b c e : D} : Vals0 [.val a, .val b, .val c, .val e, .unk] := vals0_val (vals0_val (vals0_val (vals0_val (vals0_unk vals0_nil))))
theorem ps_rims {X : Cx} {F : Fm} (hX : F.Xs X) {T : List (Addr × Str)} {stA stC : Stmt} {c e : Expr} {es : List Expr} {r : Str} {p1 apos p2 p3 p4 p5 p6 p7 p8 : Pos} {k : Nat} (k_iro : KnSp F.G k "in_round_order" (spIro F.G T)) (hk : k ≤ F.k) (hcm : F.cm = true) (hg : F.kd.lookup ("in_round_order" : Str) = some .globalImplicit) (hn : F.N[2]? = some r) (hv : F.V[2]? = some true)
    (hbase : attributeBase (.Name r p1) "append" X.env (eval (.Name r p1) X.env) = eval (.Name r p1) X.env := by rfl) (hline : (apos.endLine == p4.line) = true := by rfl)
    (h1 : ∀ z, starEach [Expr.Call (.Name "in_round_order" p2) (e :: es) z p3] X.env = (false, eval (.Call (.Name "in_round_order" p2) (e :: es) z p3) X.env) :: starEach [] X.env := by intros; rfl) (he : starEach (e :: es) X.env = (false, eval e X.env) :: starEach es X.env := by rfl) (hpl : (backTo p3 (starEach es X.env)).any (·.1) = false := by rfl)
    (hfew : ((backTo p4 (starEach [Expr.Call (.Name "in_round_order" p2) (e :: es) [] p3] X.env)).all (fun x => !x.1) && (backToKw p4 (keywordEach [] X.env)).all (fun x => x.1.isSome) && decide (([Expr.Call (.Name "in_round_order" p2) (e :: es) [] p3] : List Expr).length + ([] : List Keyword).length + (if ([] : List Keyword).isEmpty then 0 else 1) < 30)) = true := by rfl)
    (hs : swapsWith (.Call (.Attribute (.Name r p1) "append" apos) [.Call (.Name "in_round_order" p2) (e :: es) [] p3] [] p4) none p5.line X.env = pure false := by rfl)
    (hd : (r == ("__debug__" : Str)) = false := by decide) (hcd : (r == ("__classdict__" : Str)) = false := by decide) :
    PSs X [.While c [stA, .Expr (.Call (.Attribute (.Name r p1) "append" apos) [.Call (.Name "in_round_order" p2) (e :: es) [] p3] [] p4) p5, stC] [] p6, .Return (some (.Name r p7)) p8] (tSeq (tWhile (cT F c) (bodyT F T stA (e :: es) stC)) (tRet (tVar 2))) := by
  obtain ⟨fi, fdi, psi, j, hj, oki, hmi, hki, hbi⟩ := k_iro
  obtain ⟨q1, q2, q3, q4, q5, q6⟩ := F.hX X hX
  refine pss_cons (ps_while (F.po X hX) (cT_ok X hX) ?_) (pss_one (ps_ret (pvar 2 hn hv X hX hd hcd)))
  refine pss_app (a := [stA]) (ta := cB F [stA]) (tb := tSeq (tDrop (appT F T (e :: es))) (cB F [stC])) (cB_ok X hX) (pss_cons (ps_expr ?_ hs) (cB_ok X hX))
  rw [← q1, ← q2, ← q3, ← q4, ← q5] at oki
  rw [← q4] at hmi
  rw [← q3] at hki hbi
  show PE X _ (tBM F.G.K "list" rAppend (tVar 2) (tCons (tCallS (spIro F.G T) (WE F.W) (cA F (e :: es))) tNil))
  rw [← q3]
  exact pe_bm PySem.F.plainAttrs_list PySem.F.slot_list_append PySem.F.type_list_append mt_append (pvar 2 hn hv X hX hd hcd) (pa_cons (pe_callS oki ((F.hr hcm X hX).mono (Nat.le_trans hj hk)) (F.gl X hX hg) hmi hki hbi (fun σ => passAt (F.tk X hX) σ) (cA_ok X hX) (by decide) he hpl) pa_nil) hbase hfew hline (h1 []) (by rfl)
section
variable {F : Fm} {T : List (Addr × Str)} {c : Expr} {stA stC : Stmt} {es : List Expr} {d : D}
structure RimW (F : Fm) (T : List (Addr × Str)) (d : D) (Hz : Hp) (p : Addr) (rows : List (List Int)) (m : Nat) (σ : L2.St) (H : Hp) : Prop where
  ex : ∃ (S : Hp) (L : List Int) (done left : List (List Int)) (as : List Addr), left.length = m ∧ Rims d L left ∧ rows = done ++ left ∧ Holds F.G H σ S H [.val d, .val (.lst (L.map D.int)), .val (.adr p), .unk, .unk] ∧ S p = none ∧ NoT S ∧
    H p = some (.lst (as.map V.ref)) ∧ p ∉ as ∧ RowsAt Hz H as done ∧ ExtT Hz H ∧ LamX.Tabs T H
theorem while_rims (hc : ∀ L p, TM F c [.val d, .val (.lst L), .val (.adr p), .unk, .unk] (b1 pyTruth (.ok (.lst L))))
    (hA : ∀ L p, BM F [stA] [.val d, .val L, .val (.adr p), .unk, .unk] ((M.bindC (rimM d L) () fun r => (Ctl.nx r : Ctl Unit D)).out (fun _ => []) fun s => [.val d, .val L, .val (.adr p), .val s, .unk]))
    (hB : ∀ L p rim, AM F es [.val d, .val L, .val (.adr p), .val rim, .unk] (mlist [b1 (pyFld 1 "letters") (.ok d), .ok rim]))
    (hC : ∀ L p rim, BM F [stC] [.val d, .val L, .val (.adr p), .val rim, .unk] ((M.bindC (leftM L rim) () fun r => (Ctl.nx r : Ctl Unit D)).out (fun _ => []) fun s => [.val d, .val s, .val (.adr p), .val rim, .unk]))
    {Dn : Ends} {σ : L2.St} {H Hz : Hp} {p : Addr} {rows : List (List Int)} {m : Nat} (hz : Hz p = none) (hl : rows.length < sizeLine) (w0 : RimW F T d Hz p rows m σ H)
    (hD : ∀ σ' H' as, σ'[2]? = some (some (.ref p)) → p ∉ as → ExtT Hz H' → LamX.Tabs T H' → H' p = some (.lst (as.map V.ref)) → RowsAt Hz H' as rows → Dn.nx σ' H') :
    tWhile (cT F c) (bodyT F T stA es stC) Dn σ H := by
  refine ⟨RimW F T d Hz p rows, ⟨m, w0⟩, ?_⟩
  rintro m σ2 H2 ⟨S2, L, done, left, as, hm, hR, hrows, hh, hSp, nT, hp, hpa, RA, eT, hT⟩
  refine (hc _ p).c H2 σ2 S2 H2 _ hh fun S3 H3 g3 => ?_
  cases hR with
  | nil =>
    refine iteF ?_
    obtain ⟨v, hv, rv⟩ := hh.val 2 _ rfl
    cases rv
    rw [List.append_nil] at hrows
    subst hrows
    exact hD σ2 H3 as hv hpa (eT.trans (.of g3.h)) (hT.ext g3.h) (g3.h _ _ hp) (RA.keep fun a _ xs e => g3.h _ _ e)
  | @cons _ L' row left' rim l hne hrim hl' hI hleft hR' =>
    have hb : (!(L.map D.int).isEmpty) = true := by cases L with
      | nil => exact absurd rfl hne
      | cons _ _ => rfl
    rw [hb]
    have h3 := hh.grow g3
    refine iteT ⟨fun σ' H' => ∃ m', m' < m ∧ RimW F T d Hz p rows m' σ' H', fun σ' H' q => q, ?_⟩
    refine (hA (.lst (L.map D.int)) p).c S3 H2 _ σ2 S3 H3 g3.base h3 ?_
    rw [hrim]
    intro σ4 S4 H4 g4 h4
    have hp4 : H4 p = some (.lst (as.map V.ref)) := g4.h _ _ hp
    have hS4 : S4 p = none := g4.sep p ⟨_, hp, fun _ z => by cases z⟩ (g3.sep p ⟨_, hp, fun _ z => by cases z⟩ hSp)
    obtain ⟨v, hv, rv⟩ := h4.val 2 _ rfl
    cases rv
    refine ⟨.ref p, hv, .inl ⟨rfl, _, SqL.of hp4⟩, ?_⟩
    refine (hB (.lst (L.map D.int)) p rim).c H2 σ4 S4 H4 _ h4 ?_
    rw [hl']
    intro S5 H5 g5 vs rvs
    have hp5 : H5 p = some (.lst (as.map V.ref)) := g5.h _ _ hp4
    have hS5 : S5 p = none := g5.sep p ⟨_, hp4, fun _ z => by cases z⟩ hS4
    have e25 : Ex H2 H5 := g4.h.trans g5.h
    refine ⟨S5, l, rim, row, g5.sub, rvs, hI, hT.ext e25, fun a H6 ha e56 T6 hrow => ?_⟩
    have hp6 : H6 p = some (.lst (as.map V.ref)) := e56.n _ _ hp5 (fun _ z => by cases z)
    have hap : a ≠ p := fun z => by rw [z, hp5] at ha; cases ha
    have e26 : ExtT H2 H6 := (ExtT.of e25).trans e56
    have ez6 : ExtT Hz H6 := eT.trans e26
    have haz : Hz a = none := eT.non (sub_none e25 ha)
    have haa : a ∉ as := fun z => by
      obtain ⟨r, e⟩ := RA.there z
      rw [e25 _ _ e] at ha
      cases ha
    have hlen : as.length < sizeLine := by
      have := RA.len
      have := congrArg List.length hrows
      rw [List.length_append] at this
      omega
    refine ⟨p, as.map V.ref, .ref a, rfl, rfl, hp6, by rw [List.length_map]; exact hlen, ?_⟩
    have RA6 : RowsAt Hz (upd H6 p (.lst ((as ++ [a]).map V.ref))) (as ++ [a]) (done ++ [row]) := by
      refine RowsAt.snoc (RA.keep fun b hb xs e => ?_) (by rw [upd_ne hap]; exact hrow) haz haa
      have hbp : b ≠ p := fun z => hpa (by rw [← z]; exact hb)
      rw [upd_ne hbp]
      exact e26.n _ _ e (fun _ z => by cases z)
    have eS : Ex (nt S5) (upd H6 p (.lst ((as ++ [a]).map V.ref))) := fun b o e => by
      have hbp : b ≠ p := fun z => by rw [z, nt_none hS5] at e; cases e
      rw [upd_ne hbp]
      exact ext_nt nt_no (nt_sub.trans g5.sub) e56.n b o e
    have h6 : Holds F.G (upd H6 p (.lst ((as ++ [a]).map V.ref))) σ4 (nt S5) (upd H6 p (.lst ((as ++ [a]).map V.ref))) [.val d, .val (.lst (L.map D.int)), .val (.adr p), .val rim, .unk] :=
      h4.move v4 (fun v d r => (r.mono g5.s).nt) eS (Same.refl _)
    have e : as.map V.ref ++ [V.ref a] = (as ++ [a]).map V.ref := by simp
    rw [e]
    refine (hC (.lst (L.map D.int)) p rim).c (nt S5) _ _ σ4 (nt S5) _ (Grow.refl eS) h6 ?_
    rw [hleft]
    intro σ7 S7 H7 g7 h7
    have hp7 : H7 p = some (.lst ((as ++ [a]).map V.ref)) := g7.h _ _ upd_same
    have hS7 : S7 p = none := g7.sep p ⟨_, upd_same, fun _ z => by cases z⟩ (nt_none hS5)
    refine ⟨left'.length, by rw [← hm]; exact Nat.lt_succ_self _, nt S7, L', done ++ [row], left', as ++ [a], rfl, hR', by rw [hrows, List.append_assoc]; rfl, ?_, nt_none hS7, nt_no, hp7, ?_, RA6.keep fun b _ xs e => g7.h _ _ e, ?_, ?_⟩
    · exact (h7.weak (.same (.same (.same (.unk (.same .nil)))))).move v3 (fun v d r => r.nt) (nt_sub.trans g7.sub) (Same.refl _)
    · exact fun z => (List.mem_append.mp z).elim hpa fun q => hap (List.mem_singleton.mp q).symm
    · exact (ez6.put hz).trans (.of g7.h)
    · exact (tabs_upd T6 hp6).ext g7.h
end
end Mir
set_option maxHeartbeats 1000000
namespace Mir
open PySem PySem.Spec L2
open PyProof.Rows (envOfC)
def rowsD (rows : List (List Int)) : D := .lst (rows.map fun r => .lst (r.map D.int))
def addL (S H : Hp) (p : Addr) (as : List Addr) : Hp := fun b => if b = p ∨ b ∈ as then H b else S b
section
variable {G : GG} {S H Hz : Hp} {p : Addr} {as : List Addr} {rows : List (List Int)}
theorem addL_in {b : Addr} (h : b = p ∨ b ∈ as) : addL S H p as b = H b := if_pos h
theorem addL_sub (e : Ex S H) : Ex (addL S H p as) H := fun b o h => by
  unfold addL at h
  split at h
  · exact h
  · exact e b o h
theorem addL_old (e : Ex S H) : Ex S (addL S H p as) := fun b o h => by
  unfold addL
  split
  · exact e b o h
  · exact h
theorem rows_reps {T : Hp} : ∀ {as : List Addr} {rows : List (List Int)}, as.length = rows.length → (∀ (i : Nat) a r, as[i]? = some a → rows[i]? = some r → T a = some (.lst (r.map V.int))) → Reps G T (as.map V.ref) (rows.map fun r => D.lst (r.map D.int))
  | [], [], _, _ => .nil
  | a :: as, r :: rows, l, h => .cons (.lst (h 0 a r rfl rfl) (nReps r)) (rows_reps (by simpa using l) fun i b q e1 e2 => h (i + 1) b q (by simpa using e1) (by simpa using e2))
theorem addL_rep (h : H p = some (.lst (as.map V.ref))) (R : RowsAt Hz H as rows) : Rep G (addL S H p as) (.ref p) (rowsD rows) :=
  .lst (by rw [addL_in (.inl rfl)]; exact h) (rows_reps R.len fun i a r e1 e2 => by rw [addL_in (.inr (List.mem_of_getElem? e1))]; exact R.at_ i a r e1 e2)
theorem adr_reps {T : Hp} : ∀ as : List Addr, Reps G T (as.map V.ref) (as.map D.adr)
  | [] => .nil
  | a :: as => .cons (.adr a) (adr_reps as)
end
def g10 (dT dG dD : D) (x8 x10 : Sl) : Gam := [.unk, .unk, .unk, .unk, .val dT, .val dG, .unk, .val dD, x8, .unk, x10]
abbrev callT (F : Fm) (T : List (Addr × Str)) (es : List Expr) : TE := tCallS (spRims F.G T) (WE F.W) (cA F es)
abbrev lastT (F : Fm) (T : List (Addr × Str)) (es : List Expr) (r : R2) (due gr : Expr) : TS := tRet (tAndV (tOp r (callT F T es) (cE F due)) (cE F gr))
abbrev loopT (F : Fm) (tg it c2 : Expr) (A2 : List Stmt) : TS := tFor (cI F tg it) (gName 8) (tSeq (tIfS (cT F c2) (cB F A2) tNext) (tSeq (tDrop (tBM0 F.G.K "list" rClear (tVar 8))) tNext))
section
variable {F : Fm} {T : List (Addr × Str)} {dT dG dD : D} {L : List Int} {rows : List (List Int)} {es : List Expr} {c1 c2 tg it due gr : Expr} {A1 A2 : List Stmt} {r : R2}
theorem holds10 {H0 S S' H H' : Hp} {σ σ' : L2.St} {x8 x10 : Sl} (hh : Holds F.G H0 σ S H (g10 dT dG dD .unk .unk)) (hs : Ex S S') (hS : Ex S' H') (hl : σ'.length = σ.length) (hσ : ∀ i : Nat, i < 8 → σ'[i]? = σ[i]?) (v8 : x8 = .unk ∨ ∃ d v, x8 = .val d ∧ σ'[8]? = some (some v) ∧ Rep F.G S' v d) (v10 : x10 = .unk ∨ ∃ d v, x10 = .val d ∧ σ'[10]? = some (some v) ∧ Rep F.G S' v d) :
    Holds F.G S' σ' S' H' (g10 dT dG dD x8 x10) := by
  refine holds0 (fun s hs => ?_) hS hS (by rw [hl]; exact hh.len) fun i d e => ?_
  · have : s = .unk ∨ s = .val dT ∨ s = .val dG ∨ s = .val dD ∨ s = x8 ∨ s = x10 := by
      unfold g10 at hs
      simp only [List.mem_cons, List.not_mem_nil, or_false] at hs
      rcases hs with h | h | h | h | h | h | h | h | h | h | h <;> simp [h]
    rcases this with h | h | h | h | h | h
    · exact .inl h
    · exact .inr ⟨_, h⟩
    · exact .inr ⟨_, h⟩
    · exact .inr ⟨_, h⟩
    · rcases v8 with z | ⟨d, v, z, _⟩
      · exact .inl (h.trans z)
      · exact .inr ⟨d, h.trans z⟩
    · rcases v10 with z | ⟨d, v, z, _⟩
      · exact .inl (h.trans z)
      · exact .inr ⟨d, h.trans z⟩
  · match i, e with
    | 0, e => cases e
    | 1, e => cases e
    | 2, e => cases e
    | 3, e => cases e
    | 4, e => cases e; obtain ⟨v, a, q⟩ := hh.val 4 _ rfl; exact ⟨v, by rw [hσ 4 (by decide)]; exact a, q.mono hs⟩
    | 5, e => cases e; obtain ⟨v, a, q⟩ := hh.val 5 _ rfl; exact ⟨v, by rw [hσ 5 (by decide)]; exact a, q.mono hs⟩
    | 6, e => cases e
    | 7, e => cases e; obtain ⟨v, a, q⟩ := hh.val 7 _ rfl; exact ⟨v, by rw [hσ 7 (by decide)]; exact a, q.mono hs⟩
    | 8, e =>
      have e : some x8 = some (Sl.val d) := e
      rcases v8 with z | ⟨d', v, z, a, q⟩
      · rw [z] at e; cases e
      · rw [z] at e; cases e; exact ⟨v, a, q⟩
    | 9, e => cases e
    | 10, e =>
      have e : some x10 = some (Sl.val d) := e
      rcases v10 with z | ⟨d', v, z, a, q⟩
      · rw [z] at e; cases e
      · rw [z] at e; cases e; exact ⟨v, a, q⟩
    | n + 11, e => simp [g10] at e
theorem call10 (hcall : AM F es (g10 dT dG dD .unk .unk) (mlist [.ok dT])) (hL : b1 pyListRg (b1 (pyFld 1 "posts") (.ok dT)) = .ok (.lst (L.map D.int))) (hR : Rims dT L rows) (hz : rows.length < sizeLine) {H0 S H : Hp} {σ : L2.St} {Q : VK}
    (hh : Holds F.G H0 σ S H (g10 dT dG dD .unk .unk)) (nT : NoT S) (hT : LamX.Tabs T H)
    (po : ∀ p as H', (∀ b, b = p ∨ b ∈ as → S b = none) → p ∉ as → Ex S H' → LamX.Tabs T H' → H' p = some (.lst (as.map V.ref)) → RowsAt H H' as rows → Q (.ref p) H') : callT F T es σ H Q := by
  refine hcall.c H0 σ S H _ hh fun S1 H1 g1 vs rvs => ?_
  refine ⟨S1, dT, L, rows, g1.sub, rvs, hL, hR, hz, hT.ext g1.h, fun p as H2 hp hpa eT T2 hl RA => ?_⟩
  have e1 : ExtT H H2 := (ExtT.of g1.h).trans eT
  refine po p as H2 (fun b hb => ?_) hpa (ext_nt nT hh.ex e1.n) T2 hl ⟨RA.len, RA.at_, fun a ha => sub_none g1.h (RA.new a ha), RA.nd⟩
  rcases hb with z | z
  · rw [z]; exact sub_none hh.ex (sub_none g1.h hp)
  · exact sub_none hh.ex (sub_none g1.h (RA.new b z))
theorem last10 (hcall : AM F es (g10 dT dG dD .unk .unk) (mlist [.ok dT])) (hL : b1 pyListRg (b1 (pyFld 1 "posts") (.ok dT)) = .ok (.lst (L.map D.int))) (hR : Rims dT L rows) (hz : rows.length < sizeLine)
    (hdue : EM F due (g10 dT dG dD .unk .unk) (.ok (rowsD rows))) (hgr : EM F gr (g10 dT dG dD .unk .unk) (.ok (.bl true))) (hf : RM F r pyEq) (heq : pyEq (rowsD rows) (rowsD rows) = .ok (.bl true))
    {H0 S H : Hp} {σ : L2.St} {Dn : Ends} (hh : Holds F.G H0 σ S H (g10 dT dG dD .unk .unk)) (nT : NoT S) (hT : LamX.Tabs T H) (po : ∀ H', Dn.rt (.bl true) H') : lastT F T es r due gr Dn σ H := by
  refine call10 hcall hL hR hz hh nT hT fun p as H1 hn hpa eS T1 hl RA => ?_
  have h1 : Holds F.G _ σ (addL S H1 p as) H1 (g10 dT dG dD .unk .unk) := holds10 hh (addL_old eS) (addL_sub eS) rfl (fun _ _ => rfl) (.inl rfl) (.inl rfl)
  refine hdue.c _ σ _ H1 _ h1 fun S2 H2 g2 v rv => ?_
  refine hf (rowsD rows) (rowsD rows) _ _ σ S2 H2 _ g2.sub ((addL_rep hl RA).mono g2.s) rv ?_
  rw [heq]
  intro S3 H3 g3 w rw_
  cases rw_
  refine ⟨true, rfl, iteT ?_⟩
  exact hgr.c _ σ S3 H3 _ ((h1.grow g2).grow g3) fun S4 H4 g4 u ru => by cases ru; exact po H4
theorem loop10 (hiter : ∀ as : List Addr, IM F tg it (g10 dT dG dD .unk (.val (.lst (as.map D.adr)))) (.ok (as.map D.adr))) (hc2 : ∀ q, q ∈ rows → TM F c2 (g10 dT dG dD (.val (.lst (q.map D.int))) .unk) (.ok false))
    {H0 S H Hz : Hp} {σ : L2.St} {Dn : Ends} {p : Addr} {as : List Addr} (hh : Holds F.G H0 σ S H (g10 dT dG dD .unk .unk)) (h10 : σ[10]? = some (some (.ref p))) (hl8 : 8 < σ.length) (nT : NoT S) (hT : LamX.Tabs T H) (hn : ∀ b, b = p ∨ b ∈ as → S b = none) (hpa : p ∉ as) (hp : H p = some (.lst (as.map V.ref))) (RA : RowsAt Hz H as rows)
    (po : ∀ σ' S' H', Holds F.G S' σ' S' H' (g10 dT dG dD .unk .unk) → NoT S' → LamX.Tabs T H' → Dn.nx σ' H') : loopT F tg it c2 A2 Dn σ H := by
  have hS : Ex (addL S H p []) H := addL_sub hh.ex
  have h1 : Holds F.G _ σ (addL S H p []) H (g10 dT dG dD .unk (.val (.lst (as.map D.adr)))) :=
    holds10 hh (addL_old hh.ex) hS rfl (fun _ _ => rfl) (.inl rfl) (.inr ⟨_, _, rfl, h10, .lst (by rw [addL_in (.inl rfl)]; exact hp) (adr_reps as)⟩)
  refine (hiter as).c _ σ _ H _ h1 fun S1 H1 g1 J hJ => ?_
  have nS1 : ∀ a, a ∈ as → S1 a = none := fun a ha => by
    obtain ⟨q, e⟩ := RA.there ha
    refine g1.sep a ⟨_, e, fun _ z => by cases z⟩ ?_
    unfold addL
    rw [if_neg (by simp only [List.not_mem_nil, or_false]; exact fun z => hpa (by rw [← z]; exact ha))]
    exact hn a (.inr ha)
  have h0 : Holds F.G H0 σ S H (g10 dT dG dD .unk .unk) := hh
  refine ⟨fun i m σ2 H2 => m = as.length - i ∧ i ≤ as.length ∧ Ex S1 H2 ∧ LamX.Tabs T H2 ∧ σ2.length = σ.length ∧ (∀ j : Nat, j < 8 → σ2[j]? = σ[j]?) ∧ ∀ (j : Nat) a q, i ≤ j → as[j]? = some a → rows[j]? = some q → H2 a = some (.lst (q.map V.int)), ⟨as.length, by simp, Nat.zero_le _, g1.sub, hT.ext g1.h, rfl, fun _ _ => rfl, fun j a q _ e1 e2 => g1.h _ _ (RA.at_ j a q e1 e2)⟩, ?_⟩
  rintro i m σ2 H2 ⟨rfl, hi, eS, T2, hl, hσ, hrows⟩
  obtain ⟨stop, go⟩ := hJ S1 H2 (Same.refl _) eS
  by_cases hlt : i < as.length
  · obtain ⟨hgo, hy⟩ := go i (.adr as[i]) (by rw [List.getElem?_map, List.getElem?_eq_getElem hlt]; rfl)
    have hir : i < rows.length := by rw [← RA.len]; exact hlt
    refine .inr ⟨hgo, fun σ' H' => Ex S1 H' ∧ LamX.Tabs T H' ∧ σ'.length = σ.length ∧ (∀ j : Nat, j < 8 → σ'[j]? = σ[j]?) ∧ ∀ (j : Nat) a q, i + 1 ≤ j → as[j]? = some a → rows[j]? = some q → H' a = some (.lst (q.map V.int)), fun σ' H' q => ⟨as.length - (i + 1), by omega, rfl, hlt, q⟩, fun x H3 y => ?_⟩
    obtain ⟨S3, g3, r3⟩ := hy x H3 y
    cases r3
    have ha : H3 as[i] = some (.lst (rows[i].map V.int)) := g3.h _ _ (hrows i _ _ (Nat.le_refl _) (List.getElem?_eq_getElem hlt) (List.getElem?_eq_getElem hir))
    have e3 : Ex S1 H3 := eS.trans g3.h
    have l8 : 8 < σ2.length := by rw [hl]; exact hl8
    have hσ8 : (σ2.set 8 (some (V.ref as[i])))[8]? = some (some (V.ref as[i])) := List.getElem?_set_self l8
    have h3 : Holds F.G _ (σ2.set 8 (some (.ref as[i]))) (addL S1 H3 as[i] []) H3 (g10 dT dG dD (.val (.lst (rows[i].map D.int))) .unk) :=
      holds10 h0 ((addL_old hh.ex).trans (g1.s.trans (addL_old e3))) (addL_sub e3) (by rw [List.length_set]; exact hl) (fun j hj => by rw [List.getElem?_set_ne (by omega)]; exact hσ j hj) (.inr ⟨_, _, rfl, hσ8, .lst (by rw [addL_in (.inl rfl)]; exact ha) (nReps _)⟩) (.inl rfl)
    refine (hc2 _ (List.getElem_mem hir)).c _ _ _ H3 _ h3 fun S4 H4 g4 => iteF ?_
    have ha4 : H4 as[i] = some (.lst (rows[i].map V.int)) := g4.h _ _ ha
    refine ⟨.ref as[i], hσ8, .inl ⟨rfl, _, SqL.of ha4⟩, as[i], _, rfl, rfl, ha4, ?_, ?_, by rw [List.length_set]; exact hl, fun j hj => by rw [List.getElem?_set_ne (by omega)]; exact hσ j hj, fun j a q hj e1 e2 => ?_⟩
    · intro b o e
      have nb : b ≠ as[i] := fun z => by rw [z, nS1 _ (List.getElem_mem hlt)] at e; cases e
      rw [upd_ne nb]
      exact g4.h _ _ (e3 _ _ e)
    · exact tabs_upd (T2.ext (g3.h.trans g4.h)) ha4
    · have nb : a ≠ as[i] := fun z => by
        have hja : j < as.length := (List.getElem?_eq_some_iff.mp e1).1
        have hz : as[j] = as[i] := by rw [← z]; exact (List.getElem?_eq_some_iff.mp e1).2
        have := List.pairwise_iff_getElem.mp RA.nd i j hlt hja (by omega)
        exact this hz.symm
      rw [upd_ne nb]
      exact g4.h _ _ (g3.h _ _ (hrows j a q (by omega) e1 e2))
  · have e : i = as.length := by omega
    subst e
    refine .inl ⟨by rw [List.length_map] at stop; exact stop, po σ2 (nt S1) H2 ?_ nt_no T2⟩
    have eS0 : Ex S (nt S1) := fun b o e => nt_at (g1.s _ _ (addL_old hh.ex _ _ e)) fun ps z => nT b ps (by rw [e, z])
    exact holds10 h0 eS0 (nt_sub.trans eS) hl hσ (.inl rfl) (.inl rfl)
theorem tail10 {es2 : List Expr} (hcall : AM F es (g10 dT dG dD .unk .unk) (mlist [.ok dT])) (hcall2 : AM F es2 (g10 dT dG dD .unk .unk) (mlist [.ok dT])) (hL : b1 pyListRg (b1 (pyFld 1 "posts") (.ok dT)) = .ok (.lst (L.map D.int))) (hR : Rims dT L rows) (hz : rows.length < sizeLine)
    (hc1 : TM F c1 (g10 dT dG dD .unk (.val (rowsD rows))) (.ok false)) (hiter : ∀ as : List Addr, IM F tg it (g10 dT dG dD .unk (.val (.lst (as.map D.adr)))) (.ok (as.map D.adr))) (hc2 : ∀ q, q ∈ rows → TM F c2 (g10 dT dG dD (.val (.lst (q.map D.int))) .unk) (.ok false))
    (hdue : EM F due (g10 dT dG dD .unk .unk) (.ok (rowsD rows))) (hgr : EM F gr (g10 dT dG dD .unk .unk) (.ok (.bl true))) (hf : RM F r pyEq) (heq : pyEq (rowsD rows) (rowsD rows) = .ok (.bl true))
    {H0 S H : Hp} {σ : L2.St} {Dn : Ends} (hh : Holds F.G H0 σ S H (g10 dT dG dD .unk .unk)) (nT : NoT S) (hT : LamX.Tabs T H) (po : ∀ H', Dn.rt (.bl true) H') :
    tSeq (tAsg (callT F T es) (gName 10)) (tSeq (tIfS (cT F c1) (cB F A1) tNext) (tSeq (loopT F tg it c2 A2) (lastT F T es2 r due gr))) Dn σ H := by
  have hl : 10 < σ.length := hh.len
  refine call10 hcall hL hR hz hh nT hT fun p as H1 hn hpa eS T1 hl1 RA => ?_
  have h10 : (σ.set 10 (some (V.ref p)))[10]? = some (some (V.ref p)) := List.getElem?_set_self hl
  have h1 : Holds F.G _ (σ.set 10 (some (.ref p))) (addL S H1 p as) H1 (g10 dT dG dD .unk (.val (rowsD rows))) :=
    holds10 hh (addL_old eS) (addL_sub eS) (by rw [List.length_set]) (fun j hj => by rw [List.getElem?_set_ne (by omega)]) (.inl rfl) (.inr ⟨_, _, rfl, h10, addL_rep hl1 RA⟩)
  refine hc1.c _ _ _ H1 _ h1 fun S2 H2 g2 => iteF ?_
  have e2 : Ex S H2 := eS.trans g2.h
  have h2 : Holds F.G _ (σ.set 10 (some (.ref p))) S H2 (g10 dT dG dD .unk .unk) :=
    holds10 hh (Same.refl _) e2 (by rw [List.length_set]) (fun j hj => by rw [List.getElem?_set_ne (by omega)]) (.inl rfl) (.inl rfl)
  refine loop10 hiter hc2 h2 h10 (by rw [List.length_set]; omega) nT (T1.ext g2.h) hn hpa (g2.h _ _ hl1) (RA.keep fun a _ xs e => g2.h _ _ e) fun σ' S' H' h' n' T' => ?_
  exact last10 hcall2 hL hR hz hdue hgr hf heq h' n' T' po
end
end Mir
set_option maxHeartbeats 1000000
namespace Mir
open PySem PySem.Spec L2
open PyProof.Rows (envOfC)
theorem pe_rims {X : Cx} {F : Fm} (hX : F.Xs X) {T : List (Addr × Str)} {k : Nat} {e : Expr} {es : List Expr} {p2 p3 : Pos} (k_rims : KnSp F.G k "rims" (spRims F.G T)) (hk : k ≤ F.k) (hcm : F.cm = true) (hg : F.kd.lookup ("rims" : Str) = some .globalImplicit)
    (he : starEach (e :: es) X.env = (false, eval e X.env) :: starEach es X.env) (hpl : (backTo p3 (starEach es X.env)).any (·.1) = false) : PE X (.Call (.Name "rims" p2) (e :: es) [] p3) (callT F T (e :: es)) := by
  obtain ⟨fi, fdi, psi, j, hj, oki, hmi, hki, hbi⟩ := k_rims
  obtain ⟨q1, q2, q3, q4, q5, q6⟩ := F.hX X hX
  rw [← q1, ← q2, ← q3, ← q4, ← q5] at oki
  rw [← q4] at hmi
  rw [← q3] at hki hbi
  exact pe_callS oki ((F.hr hcm X hX).mono (Nat.le_trans hj hk)) (F.gl X hX hg) hmi hki hbi (fun σ => passAt (F.tk X hX) σ) (cA_ok X hX) (by decide) he hpl
theorem ps_tail10 {X : Cx} {F : Fm} (hX : F.Xs X) {T : List (Addr × Str)} {k : Nat} {e e' c1 c2 it due g : Expr} {es es' : List Expr} {told rim : Str} {A1 A2 : List Stmt} {p1 p2 p3 p4 p5 p6 p7 p8 p9 p10 p11 p12 q1 q2 q3 q4 q5 : Pos}
    (k_rims : KnSp F.G k "rims" (spRims F.G T)) (hk : k ≤ F.k) (hcm : F.cm = true) (hg : F.kd.lookup ("rims" : Str) = some .globalImplicit) (hn10 : F.N[10]? = some told) (hn8 : F.N[8]? = some rim) (hl10 : F.L[10]? = some true) (hl8 : F.L[8]? = some true) (hv8 : F.V[8]? = some true)
    (he : starEach (e :: es) X.env = (false, eval e X.env) :: starEach es X.env := by rfl) (hpl : (backTo p3 (starEach es X.env)).any (·.1) = false := by rfl) (he' : starEach (e' :: es') X.env = (false, eval e' X.env) :: starEach es' X.env := by rfl) (hpl' : (backTo q2 (starEach es' X.env)).any (·.1) = false := by rfl)
    (hs : swapsWith (.Call (.Name "rims" p2) (e :: es) [] p3) (some (.Name told p1)) p4.line X.env = pure false := by rfl) (hf : ∀ x, foldedSetIterable it X.env x = pure x := by intro _; rfl)
    (hbase : attributeBase (.Name rim p7) "clear" X.env (eval (.Name rim p7) X.env) = eval (.Name rim p7) X.env := by rfl) (hline : (p8.endLine == p9.line) = true := by rfl)
    (hsc : swapsWith (.Call (.Attribute (.Name rim p7) "clear" p8) [] [] p9) none p10.line X.env = pure false := by rfl) (hm : behindInMarks .Eq due = false := by exact nomark _)
    (hd : (rim == ("__debug__" : Str)) = false := by decide) (hcd : (rim == ("__classdict__" : Str)) = false := by decide) :
    PSs X [.Assign [.Name told p1] (.Call (.Name "rims" p2) (e :: es) [] p3) p4, .If c1 A1 [] p5, .For (.Name rim p12) it [.If c2 A2 [] p6, .Expr (.Call (.Attribute (.Name rim p7) "clear" p8) [] [] p9) p10] [] p11,
        .Return (some (.BoolOp .And [.Compare (.Call (.Name "rims" q1) (e' :: es') [] q2) [.Eq] [due] q3, g] q4)) q5]
      (tSeq (tAsg (callT F T (e :: es)) (gName 10)) (tSeq (tIfS (cT F c1) (cB F A1) tNext) (tSeq (loopT F (.Name rim p12) it c2 A2) (lastT F T (e' :: es') (rEqA F.G.K) due (.BoolOp .And [g] q4))))) := by
  have hN := F.hN X hX
  have l10 := F.loc X hX 10 told hl10 hn10
  have l8 := F.loc X hX 8 rim hl8 hn8
  refine pss_cons (ps_set (by rw [hN]; exact F.nd) (by rw [hN]; exact hn10) l10.1 (pe_rims hX k_rims hk hcm hg he hpl) hs l10.2) ?_
  refine pss_cons (ps_if (cT_ok X hX) (cB_ok X hX) pss_nil) ?_
  refine pss_cons (ps_for (F.po X hX) (F.hc hcm X hX) (cI_ok X hX) (pg_name (by rw [hN]; exact F.nd) (by rw [hN]; exact hn8) l8.1 l8.2) ?_ hf) ?_
  · refine pss_cons (ps_if (cT_ok X hX) (cB_ok X hX) pss_nil) (pss_cons (ps_expr ?_ hsc) pss_nil)
    rw [← F.hK X hX]
    exact pe_bm0 PySem.F.plainAttrs_list PySem.F.slot_list_clear PySem.F.type_list_clear mt_clear (pvar 8 hn8 hv8 X hX hd hcd) hbase hline
  · exact pss_one (ps_ret (pe_and (pe_cmpR (ok_eq X hX) (pe_rims hX k_rims hk hcm hg he' hpl') (cE_ok X hX) hm) (cE_ok X hX)))
end Mir
set_option maxHeartbeats 1000000
namespace Mir
open PySem PySem.Spec L2
def c_pre10 (p_script : D) : Ctl Unit (D × D × D) := M.bindC (b1 m_l_pool (mlist [.ok p_script])) () fun v1_pool_here => M.bindC (b2 pyAdd (.ok (.int 3)) (b2 pyMod (b2 pyAdd (b1 m_l_draw (mlist [.ok v1_pool_here, .ok (.int 0), .ok (.int 6)])) (.ok (.int 4))) (.ok (.int 6)))) () fun v2_posts => M.bindC (b1 m_l_turns (mlist [b1 m_l_nested (mlist [.ok v1_pool_here, .ok (.int 2), .ok v2_posts, b2 pyEq (b1 m_l_draw (mlist [.ok v1_pool_here, .ok (.int 1), .ok (.int 2)])) (.ok (.int 1))])])) () fun v3_turns_here => M.bindC (b1 (mkO 1 m_Table___init) (mlist [b1 m_l_letters (mlist [.ok v3_turns_here, .ok v2_posts])])) () fun v4_table => M.bindC (lcM (b1 pyRange1 (mlist [.ok v2_posts])) (fun v6_k => elM (.ok true) (.ok v6_k))) () fun v5_group => M.bindC (b1 mkLst (mlist [])) () fun v7_due => M.bindC (b1 pyRange1 (mlist [.ok v2_posts])) () fun v15_ds => (forC (X := Unit) (S := D × D) (fun v9_k (v8_j : D × D) => (M.bindC (b1 isB (b2 pyNe (.ok v8_j.1) (b1 mkLst (mlist [])))) () fun c => if c = true then (M.bindC (b1 m_l_round (mlist [.ok v3_turns_here, .ok v8_j.1])) () fun v11_rim => M.bindC (appM v8_j.2 (.ok v11_rim)) () fun v12_due => M.bindC (lcM (b1 pyItems (.ok v8_j.1)) (fun v14_p => elM (b1 isB (b2 (memD true) (.ok v14_p) (.ok v11_rim))) (.ok v14_p))) () fun v13_group => .nx (v13_group, v12_due)) else (.nx (v8_j.1, v8_j.2)) : Ctl Unit (D × D)).bind fun (v10_j : D × D) => .nx (v10_j.1, v10_j.2)) v15_ds (v5_group, v7_due)).bind fun (v8_j : D × D) => .nx (v4_table, v8_j.1, v8_j.2)
structure Law10 (ns : List Int) : Prop where
  ex : ∃ dT L rows, c_pre10 (.scr ns) = .nx (dT, .lst [], rowsD rows) ∧ b1 pyListRg (b1 (pyFld 1 "posts") (.ok dT)) = .ok (.lst (L.map D.int)) ∧ Rims dT L rows ∧ rows.length < 100 ∧ ∀ r, r ∈ rows → r.length < 100
def spLaw10 (K : PySem.W.Frag) (T : List (Addr × Str)) : Sp := fun vs H Q E => ∃ a ns, vs = [.ref a] ∧ SqL K H a (ns.map V.int) ∧ LamX.Tabs T H ∧ Law10 ns ∧ ∀ H', Q (.bl true) H'
theorem all_is {ds : List D} {f : D → M D} (hl : ds.length < 1000000) (h : ∀ d, d ∈ ds → f d = .ok (.bl true)) : b1 pyAll (mlist [lcM (b1 pyItems (.ok (.lst ds))) (fun v => elM (.ok true) (f v))]) = .ok (.bl true) := by
  have e : compL (fun v => elM (.ok true) (f v)) (ds.map id) = .ok (ds.flatMap fun _ => [D.bl true]) := compL_map id (fun _ => [D.bl true]) fun d hd => by
    show ifM (.ok true) ((f d).bind fun y => .ok [y]) (.ok []) = _
    rw [h d hd]
    rfl
  rw [List.map_id] at e
  have hf : ∀ l : List D, (l.flatMap fun _ => [D.bl true]) = l.map fun _ => D.bl true := fun l => by
    induction l with
    | nil => rfl
    | cons a l ih => simpa [List.flatMap_cons] using ih
  rw [hf] at e
  have e2 := lcM_ok (i := b1 pyItems (.ok (.lst ds))) (ds := ds) (r := ds.map fun _ => D.bl true) rfl e (by simpa using hl)
  rw [e2]
  have key : ∀ l : List D, bolsOf (l.map fun _ => D.bl true) = some (l.map fun _ => true) := fun l => by
    induction l with
    | nil => rfl
    | cons a l ih =>
      show (bolsOf (l.map fun _ => D.bl true)).map (true :: ·) = _
      rw [ih]
      rfl
  show (ofOpt (bolsOf (ds.map fun _ => D.bl true))).bind (fun bs => M.ok (D.bl (bs.all id))) = _
  rw [key]
  show M.ok (D.bl ((ds.map fun _ => true).all id)) = _
  have : (ds.map fun _ => true).all id = true := by simp
  rw [this]
theorem rowsD_std {rows : List (List Int)} : stdD (rowsD rows) = true ∧ depD (rowsD rows) ≤ 64 := by
  have k1 : ∀ r : List Int, stdDs (r.map D.int) = true ∧ depDs (r.map D.int) ≤ 0 := fun r => ⟨stdDs_all fun d hd => by obtain ⟨i, _, rfl⟩ := List.mem_map.mp hd; rfl, depDs_le fun d hd => by obtain ⟨i, _, rfl⟩ := List.mem_map.mp hd; exact Nat.le_refl _⟩
  refine ⟨stdDs_all fun d hd => ?_, ?_⟩
  · obtain ⟨r, _, rfl⟩ := List.mem_map.mp hd
    exact (k1 r).1
  · have : depDs (rows.map fun r => D.lst (r.map D.int)) ≤ 1 := depDs_le fun d hd => by
      obtain ⟨r, _, rfl⟩ := List.mem_map.mp hd
      show depDs (r.map D.int) + 1 ≤ 1
      have := (k1 r).2
      omega
    show depDs (rows.map fun r => D.lst (r.map D.int)) + 1 ≤ 64
    omega
theorem cond10 {rows : List (List Int)} (hz : rows.length < 100) : orM (notM (b1 pyTruth (b1 (isiD [("NoneType", false), ("bool", false), ("int", false), ("str", false), ("list", true), ("tuple", false)] [(1, false)]) (.ok (rowsD rows))))) (orM (b1 isB (b2 pyNe (.ok (rowsD rows)) (.ok (rowsD rows)))) (notM (b1 pyTruth (b1 pyAll (mlist [lcM (b1 pyItems (.ok (rowsD rows))) (fun v3_rim => elM (.ok true) (b1 (isiD [("NoneType", false), ("bool", false), ("int", false), ("str", false), ("list", true), ("tuple", false)] [(1, false)]) (.ok v3_rim)))]))))) = .ok false := by
  have h1 := (eq_same (rowsD_std (rows := rows)).1 rowsD_std.2).2
  have h2 : b1 pyAll (mlist [lcM (b1 pyItems (.ok (rowsD rows))) (fun v3_rim => elM (.ok true) (b1 (isiD [("NoneType", false), ("bool", false), ("int", false), ("str", false), ("list", true), ("tuple", false)] [(1, false)]) (.ok v3_rim)))]) = .ok (.bl true) :=
    all_is (by rw [List.length_map]; omega) fun d hd => by
      obtain ⟨r, _, rfl⟩ := List.mem_map.mp hd
      rfl
  rw [h2, b2_ok, h1]
  rfl
theorem cond10r {r : List Int} (hz : r.length < 100) : notM (b1 pyTruth (b1 pyAll (mlist [lcM (b1 pyItems (.ok (.lst (r.map D.int)))) (fun v2_p => elM (.ok true) (andV (b1 (isiD [("NoneType", false), ("bool", true), ("int", true), ("str", false), ("list", false), ("tuple", false)] [(1, false)]) (.ok v2_p)) (notV (b1 (isiD [("NoneType", false), ("bool", true), ("int", false), ("str", false), ("list", false), ("tuple", false)] [(1, false)]) (.ok v2_p)))))]))) = .ok false := by
  rw [all_is (by rw [List.length_map]; omega) fun d hd => by
    obtain ⟨r, _, rfl⟩ := List.mem_map.mp hd
    rfl]
  rfl
theorem gr10 : b2 pyEq (.ok (.lst [])) (b1 mkLst (mlist [])) = .ok (.bl true) := by
  rw [show b1 mkLst (mlist []) = .ok (.lst []) from (if_pos (Nat.zero_le sizeLine) : (if ([] : List D).length ≤ sizeLine then M.ok (D.lst []) else M.stk) = _), b2_ok]
  exact (eq_same (x := .lst []) rfl (by decide)).1
end Mir
namespace Mir
open PySem PySem.Spec L2
theorem wide_ok (b : Bool) (k : Nat) : ∃ w : Int, (w = 1000 ∨ w = 400 ∨ w = 90) ∧ ((M.bindC (andM (b1 pyTruth (.ok (.bl b))) (b1 isB (b2 pyGe (.ok (.int (k : Nat))) (.ok (.int 3))))) () fun c => if c = true then (M.bindC (b2 pyIx (b1 mkLst (mlist [.ok (.int 400), .ok (.int 90)])) (b1 pyInt (mlist [b2 pyGe (.ok (.int (k : Nat))) (.ok (.int 6))]))) () fun v6_wide => .nx v6_wide) else (.nx (.int 1000)) : Ctl Unit D)) = .nx (.int w) := by
  have e0 : b1 mkLst (mlist [.ok (.int 400), .ok (.int 90)]) = .ok (.lst [.int 400, .int 90]) := (show mkLst [.int 400, .int 90] = _ from if_pos (by rw [sizeLine_eq]; decide))
  cases b with
  | false => exact ⟨1000, .inl rfl, rfl⟩
  | true =>
    by_cases h3 : (3 : Int) ≤ k
    · rw [b2_ok (f := pyGe), ge_t h3]
      by_cases h6 : (6 : Int) ≤ k
      · refine ⟨90, .inr (.inr rfl), ?_⟩
        rw [b2_ok (f := pyGe), ge_t h6, e0]
        rfl
      · refine ⟨400, .inr (.inl rfl), ?_⟩
        rw [b2_ok (f := pyGe), ge_f h6, e0]
        rfl
    · refine ⟨1000, .inl rfl, ?_⟩
      rw [b2_ok (f := pyGe), ge_f h3]
      rfl
theorem nested_ok (l : List Int) (at0 n : Nat) (b : Bool) (hn : n ≤ 8) : ∃ ps : List Pt, m_l_nested [intsD l, .int at0, .int n, .bl b] = .ok (ptsD ps) ∧ ps.length = n ∧ GP ps ∧ ∀ p ∈ ps, Bd p := by
  have main : RetIs (c_l_nested (intsD l) (.int at0) (.int n) (.bl b)) fun d => ∃ ps : List Pt, d = ptsD ps ∧ ps.length = n ∧ GP ps ∧ ∀ p ∈ ps, Bd p := by
    unfold c_l_nested
    rw [show b1 mkLst (mlist []) = .ok (.lst []) from rfl, bindC_ok, mlist_cons, mlist_nil, bind_ok, b1_ok, range_i (by omega), bindC_ok, Int.toNat_natCast]
    refine NxIs.ret (loopR_nx (fun k d => ∃ ps : List Pt, d = ptsD ps ∧ ps.length = k ∧ GP ps ∧ ∀ p ∈ ps, Bd p) ⟨[], rfl, rfl, GP.nil, by simp⟩ ?_) ?_
    · rintro k d hk ⟨ps, rfl, hl, g, hb⟩
      obtain ⟨wd, hw, ew⟩ := wide_ok b k
      rw [bindC_ok, ew, ctl_nx]
      have e1 : b2 pyAdd (.ok (.int at0)) (b2 pyMul (.ok (.int 2)) (.ok (.int k))) = .ok (.int ((at0 + 2 * k : Nat) : Int)) := by
        rw [b2_ok, mul_ii (.inl (by decide)), b2_ok, add_ii]
        congr 2
      have e3 : b2 pyDiv (b2 pySub (.ok (.int 1000)) (.ok (.int wd))) (.ok (.int 2)) = .ok (.int ((1000 - wd) / 2)) := by
        rw [b2_ok, sub_ii, b2_ok, div_ii (by decide)]
      have e4 : b2 pyAdd (.ok (.int ((at0 + 2 * k : Nat) : Int))) (.ok (.int 1)) = .ok (.int ((at0 + 2 * k + 1 : Nat) : Int)) := by
        rw [b2_ok, add_ii]
        congr 2
      rw [e1, e4, e3]
      have w0 : 0 < wd := by omega
      rw [c3 (m := m_l_draw), c3 (m := m_l_draw)]
      rw [draw_ok l _ wd w0, draw_ok l _ wd w0, b2_ok, add_ii, bindC_ok, b2_ok, add_ii, bindC_ok]
      have hx0 := drawn_nonneg (l := l) (k := at0 + 2 * k) (many := wd) w0
      have hx1 := drawn_lt (l := l) (k := at0 + 2 * k) (many := wd) w0
      have hy0 := drawn_nonneg (l := l) (k := at0 + 2 * k + 1) (many := wd) w0
      have hy1 := drawn_lt (l := l) (k := at0 + 2 * k + 1) (many := wd) w0
      have hxx : 0 ≤ drawn l (at0 + 2 * k) wd + (1000 - wd) / 2 ∧ drawn l (at0 + 2 * k) wd + (1000 - wd) / 2 < 1000 := by omega
      have hyy : 0 ≤ drawn l (at0 + 2 * k + 1) wd + (1000 - wd) / 2 ∧ drawn l (at0 + 2 * k + 1) wd + (1000 - wd) / 2 < 1000 := by omega
      clear hx0 hx1 hy0 hy1
      generalize drawn l (at0 + 2 * k) wd + (1000 - wd) / 2 = x at *
      generalize drawn l (at0 + 2 * k + 1) wd + (1000 - wd) / 2 = y at *
      obtain ⟨hx0, hx1⟩ := hxx
      obtain ⟨hy0, hy1⟩ := hyy
      rw [show b1 pyRange1 (mlist [.ok (.int 60)]) = .ok (rangeD 0 60) from rfl, bindC_ok]
      refine NxIs.nx (loopR_nx (fun j d => ∃ qs : List Pt, d = ptsD qs ∧ GP qs ∧ (∀ p ∈ qs, Bd p) ∧ ((qs = ps ∧ ∀ i, i < j → freeB ps (spotAt x y i) = false) ∨ qs.length = k + 1)) ⟨ps, rfl, g, hb, .inl ⟨rfl, by omega⟩⟩ ?_) ?_
      · rintro j d hj ⟨qs, rfl, gq, hq, hc⟩
        have hbd : Bd (spotAt x y j) := by
          have : (j : Int) * j ≤ 59 * 59 := Int.mul_le_mul (by omega) (by omega) (by omega) (by omega)
          have : 0 ≤ (j : Int) * j := Int.mul_nonneg (by omega) (by omega)
          unfold Bd spotAt
          dsimp only
          omega
        have e2 : b1 mkTup (mlist [b2 pyAdd (.ok (.int x)) (.ok (.int j)), b2 pyAdd (.ok (.int y)) (b2 pyMul (.ok (.int j)) (.ok (.int j)))]) = .ok (ptD (spotAt x y j)) := by
          rw [b2_ok, add_ii, b2_ok, mul_ii (.inl (by omega)), b2_ok, add_ii, tup2]
          rfl
        rw [e2]
        have hql : qs.length < 1000 := by
          rcases hc with ⟨rfl, _⟩ | h <;> omega
        rw [c1 (m := pyLen), c2 (m := m_l_free), len_pts, b2_ok, eq_ii, b1_ok, isB_bl, andM_ok]
        refine NxIs.nx (P := fun d => ∃ qs : List Pt, d = ptsD qs ∧ GP qs ∧ (∀ p ∈ qs, Bd p) ∧ ((qs = ps ∧ ∀ i, i < j + 1 → freeB ps (spotAt x y i) = false) ∨ qs.length = k + 1)) ?_ (fun s h => .mk h)
        by_cases hlen : qs.length = k
        · rw [if_pos (decide_eq_true (by omega))]
          rw [free_ok hq hbd hql, b1_ok]
          have hqp : qs = ps := by
            rcases hc with ⟨h, _⟩ | h
            · exact h
            · omega
          subst hqp
          rw [show nofs (pyTruth (.bl (freeB qs (spotAt x y j)))) = .ok (freeB qs (spotAt x y j)) from rfl, bindC_ok]
          cases hf : freeB qs (spotAt x y j) with
          | true =>
            rw [if_pos rfl, app_pts (by omega), bindC_ok]
            refine .mk ⟨_, rfl, gq.snoc hf, ?_, .inr (by rw [List.length_append, List.length_singleton, hlen])⟩
            intro p hp
            rcases List.mem_append.mp hp with h | h
            · exact hq p h
            · rw [List.mem_singleton.mp h]; exact hbd
          | false =>
            rw [if_neg (by decide)]
            refine .mk ⟨_, rfl, gq, hq, .inl ⟨rfl, fun i hi => ?_⟩⟩
            rcases Nat.lt_or_ge i j with h | h
            · rcases hc with ⟨_, h'⟩ | h'
              · exact h' i h
              · omega
            · have : i = j := by omega
              subst this
              exact hf
        · rw [if_neg (by simp only [decide_eq_true_eq]; omega), show nofs (.ok false) = .ok false from rfl, bindC_ok, if_neg (by decide)]
          refine .mk ⟨_, rfl, gq, hq, .inr ?_⟩
          rcases hc with ⟨rfl, _⟩ | h'
          · omega
          · exact h'
      · rintro d ⟨qs, rfl, gq, hq, hc⟩
        refine .mk ⟨qs, rfl, ?_, gq, hq⟩
        rcases hc with ⟨rfl, h⟩ | h
        · obtain ⟨j, hj, hf⟩ := exists_free qs g (by omega) x y
          rw [h j hj] at hf
          cases hf
        · exact h
    · rintro d ⟨ps, rfl, h⟩
      exact .mk ⟨ps, rfl, h⟩
  obtain ⟨d, e, ps, rfl, h⟩ := main
  refine ⟨ps, ?_, h⟩
  show (c_l_nested (intsD l) (.int at0) (.int n) (.bl b)).toM = _
  rw [e]
  rfl
end Mir
namespace Mir
theorem nodup_inj {S : List Nat} (h : S.Nodup) {i j : Nat} (hi : i < S.length) (hj : j < S.length) (e : S[i] = S[j]) : i = j := by
  have p := List.pairwise_iff_getElem.mp h
  rcases Nat.lt_trichotomy i j with z | z | z
  · exact absurd e (p i j hi hj z)
  · exact z
  · exact absurd e.symm (p j i hj hi z)
section
variable {t : Tn} {n : Nat} {L : List Nat}
structure Nx (t : Tn) (L : List Nat) (p q : Nat) : Prop where
  mem : q ∈ L
  ne : q ≠ p
  all : ∀ r, r ∈ L → r ≠ p → r ≠ q → t p q r = 1
theorem nx_one (al : Alt t) {p q q' : Nat} (h : Nx t L p q) (h' : Nx t L p q') : q = q' := by
  refine Classical.byContradiction fun z => ?_
  have h1 := h.all q' h'.mem h'.ne (Ne.symm z)
  have h2 := h'.all q h.mem h.ne z
  have := al.s2 p q q' (Ne.symm h.ne) (Ne.symm h'.ne) z
  omega
theorem nx_rim (T : Tb n t) (hL : ∀ x, x ∈ L → x < n) {p q : Nat} (hp : p ∈ L) (h : Nx t L p q) : Rim t L q := by
  intro a b c ha hb hc aq bq cq ab ac bc
  cases e : insT3 t q a b c with
  | false => rfl
  | true =>
    exfalso
    obtain ⟨k1, k2⟩ := insT3_iff.mp e
    have pq := h.ne
    have tp : ∀ r, r ∈ L → r ≠ p → r ≠ q → t q r p = 1 ∧ t q p r = -1 := fun r hr h1 h2 => by
      have e1 := h.all r hr h1 h2
      have e2 := T.al.cyc (a := p) (b := q) (c := r) (Ne.symm pq) (Ne.symm h1) (Ne.symm h2)
      have e3 := T.al.s2 q r p (Ne.symm h2) pq h1
      omega
    by_cases pa : p = a
    · subst pa
      have h1 := tp b hb (Ne.symm ab) bq
      have h2 := tp c hc (Ne.symm ac) cq
      omega
    by_cases pb : p = b
    · subst pb
      have h1 := tp a ha ab aq
      have h2 := tp c hc (Ne.symm bc) cq
      omega
    by_cases pc : p = c
    · subst pc
      have h1 := tp a ha ac aq
      have h2 := tp b hb bc bq
      omega
    have h1 := tp a ha (Ne.symm pa) aq
    have h2 := tp b hb (Ne.symm pb) bq
    have h3 := tp c hc (Ne.symm pc) cq
    refine T.r5 q p a b c (hL q h.mem) (hL p hp) (hL a ha) (hL b hb) (hL c hc) pq (Ne.symm aq) (Ne.symm bq) (Ne.symm cq) pa pb pc ab ac bc ?_
    have pm := T.pm q a b (hL q h.mem) (hL a ha) (hL b hb) (Ne.symm aq) (Ne.symm bq) ab
    have s1 := T.al.s2 q a c (Ne.symm aq) (Ne.symm cq) ac
    unfold brk5
    rw [h1.2, h2.2, h3.2]
    omega
theorem rim_nx (T : Tb n t) (hL : ∀ x, x ∈ L → x < n) (nd : L.Nodup) {p : Nat} (hp : p ∈ L) (h2 : ∃ x, x ∈ L ∧ x ≠ p) (R : Rim t L p) : ∃ q, Nx t L p q := by
  obtain ⟨q, q1, q2, q3⟩ := rim_way T hL nd (hL p hp) h2 R
  exact ⟨q, q1, q2, q3⟩
structure Rnd (t : Tn) (L : List Nat) (f : Nat) (S : List Nat) : Prop where
  fL : f ∈ L
  fR : Rim t L f
  mem : ∀ x, x ∈ S ↔ x ∈ L ∧ x ≠ f ∧ Rim t L x
  nds : S.Nodup
  ord : S.Pairwise fun a b => t f a b = 1
theorem rnd_nx (T : Tb n t) (hL : ∀ x, x ∈ L → x < n) (nd : L.Nodup) {f : Nat} {S : List Nat} (R : Rnd t L f S) (hf : ∃ x, x ∈ L ∧ x ≠ f) : ∀ (k p : Nat), (f :: S)[k]? = some p → Nx t L p (((f :: S)[k + 1]?).getD f) := by
  have ord := List.pairwise_iff_getElem.mp R.ord
  have inS : ∀ {x : Nat}, x ∈ S → x ∈ L ∧ x ≠ f ∧ Rim t L x := fun {x} h => (R.mem x).mp h
  have inj : ∀ {i j : Nat} (hi : i < S.length) (hj : j < S.length), S[i] = S[j] → i = j := fun hi hj z => nodup_inj R.nds hi hj z
  intro k p hk
  cases k with
  | zero =>
    obtain rfl : f = p := by simpa using hk
    obtain ⟨q, hq⟩ := rim_nx T hL nd R.fL hf R.fR
    have hqR := nx_rim T hL R.fL hq
    obtain ⟨j, hj, ej⟩ := List.mem_iff_getElem.mp ((R.mem q).mpr ⟨hq.mem, hq.ne, hqR⟩)
    have h0 : 0 < S.length := by omega
    have e0 : (f :: S)[0 + 1]? = some S[0] := by rw [List.getElem?_cons_succ]; exact List.getElem?_eq_getElem h0
    rw [e0]
    show Nx t L f S[0]
    by_cases z : j = 0
    · subst z
      rw [ej]
      exact hq
    · exfalso
      have h1 := ord 0 j h0 hj (by omega)
      rw [ej] at h1
      have m0 := inS (List.getElem_mem h0)
      have hne : S[0] ≠ q := fun w => by
        have := inj h0 hj (w.trans ej.symm)
        omega
      have h3 := hq.all S[0] m0.1 m0.2.1 hne
      have := T.al.s2 f q S[0] (Ne.symm hq.ne) (Ne.symm m0.2.1) (Ne.symm hne)
      omega
  | succ k =>
    rw [List.getElem?_cons_succ] at hk ⊢
    obtain ⟨hk', rfl⟩ := List.getElem?_eq_some_iff.mp hk
    obtain ⟨pL, pf, pR⟩ := inS (List.getElem_mem hk')
    obtain ⟨q, hq⟩ := rim_nx T hL nd pL ⟨f, R.fL, Ne.symm pf⟩ pR
    have hqR := nx_rim T hL pL hq
    by_cases z : q = f
    · subst z
      by_cases hlt : k + 1 < S.length
      · exfalso
        have h1 := ord k (k + 1) hk' hlt (by omega)
        obtain ⟨rL, rf, rR⟩ := inS (List.getElem_mem hlt)
        have hne : S[k + 1] ≠ S[k] := fun w => by
          have := inj hlt hk' w
          omega
        have h2 := hq.all _ rL hne rf
        have := T.al.s1 q S[k] S[k + 1] (Ne.symm pf) (Ne.symm rf) (Ne.symm hne)
        omega
      · rw [List.getElem?_eq_none (by omega)]
        exact hq
    · obtain ⟨j, hj, ej⟩ := List.mem_iff_getElem.mp ((R.mem q).mpr ⟨hq.mem, z, hqR⟩)
      have h1 := hq.all f R.fL (Ne.symm pf) (Ne.symm z)
      have h2 : t f S[k] q = 1 := by
        have := T.al.cyc2 (a := S[k]) (b := q) (c := f) (Ne.symm hq.ne) pf z
        omega
      have jk : j ≠ k := fun w => by
        subst w
        exact hq.ne ej.symm
      have lt : k < j := by
        refine Classical.byContradiction fun w => ?_
        have h3 := ord j k hj hk' (by omega)
        rw [ej] at h3
        have := T.al.s2 f S[k] q (Ne.symm pf) (Ne.symm z) (Ne.symm hq.ne)
        omega
      have hlt : k + 1 < S.length := by omega
      rw [List.getElem?_eq_getElem hlt]
      show Nx t L S[k] S[k + 1]
      by_cases w : j = k + 1
      · subst w
        rw [ej]
        exact hq
      · exfalso
        obtain ⟨rL, rf, rR⟩ := inS (List.getElem_mem hlt)
        have h3 := ord k (k + 1) hk' hlt (by omega)
        have h4 := ord (k + 1) j hlt hj (by omega)
        rw [ej] at h4
        have n1 : S[k + 1] ≠ S[k] := fun w => by
          have := inj hlt hk' w
          omega
        have n2 : S[k + 1] ≠ q := fun v => by
          have := inj hlt hj (v.trans ej.symm)
          omega
        have h5 := hq.all _ rL n1 n2
        have e1 := T.al.cyc2 (a := f) (b := S[k]) (c := S[k + 1]) (Ne.symm pf) (Ne.symm rf) (Ne.symm n1)
        have e2 := T.al.cyc2 (a := S[k]) (b := q) (c := S[k + 1]) (Ne.symm hq.ne) (Ne.symm n1) (Ne.symm n2)
        have e3 := T.al.cyc (a := f) (b := S[k + 1]) (c := q) (Ne.symm rf) (Ne.symm z) n2
        have h6 := rR f S[k] q R.fL pL hq.mem (Ne.symm rf) (Ne.symm n1) (Ne.symm n2) (Ne.symm pf) (Ne.symm z) (Ne.symm hq.ne)
        rw [insT3_iff.mpr ⟨by omega, by omega⟩] at h6
        cases h6
theorem filter_lt {P Q : Nat → Bool} {b : Nat} : ∀ {O : List Nat}, (∀ x, x ∈ O → P x = true → Q x = true) → b ∈ O → Q b = true → P b = false → (O.filter P).length < (O.filter Q).length
  | x :: O, h, hb, hq, hp => by
    have le : ∀ {O : List Nat}, (∀ x, x ∈ O → P x = true → Q x = true) → (O.filter P).length ≤ (O.filter Q).length := by
      intro O
      induction O with
      | nil => intro _; exact Nat.le_refl _
      | cons y O ih =>
        intro h
        have := ih fun x hx => h x (List.mem_cons_of_mem _ hx)
        rw [List.filter_cons, List.filter_cons]
        cases hy : P y with
        | true =>
          rw [h y List.mem_cons_self hy, if_pos rfl, if_pos rfl, List.length_cons, List.length_cons]
          omega
        | false =>
          rw [if_neg Bool.false_ne_true]
          split
          · rw [List.length_cons]; omega
          · exact this
    have h' : ∀ x, x ∈ O → P x = true → Q x = true := fun y hy => h y (List.mem_cons_of_mem _ hy)
    rw [List.filter_cons, List.filter_cons]
    by_cases e : b = x
    · subst e
      rw [hp, hq, if_neg Bool.false_ne_true, if_pos rfl, List.length_cons]
      have := le h'
      omega
    · have ih := filter_lt h' ((List.mem_cons.mp hb).resolve_left e) hq hp
      cases hx : P x with
      | true =>
        rw [h x List.mem_cons_self hx, if_pos rfl, if_pos rfl, List.length_cons, List.length_cons]
        omega
      | false =>
        rw [if_neg Bool.false_ne_true]
        split
        · rw [List.length_cons]; omega
        · exact ih
def befN (t : Tn) (f : Nat) (O : List Nat) (q : Nat) : Nat := (O.filter fun r => decide (r ≠ q) && decide (t f r q = 1)).length
theorem rnd_sorted (T : Tb n t) (hL : ∀ x, x ∈ L → x < n) {f : Nat} {O S : List Nat} (fL : f ∈ L) (fR : Rim t L f) (mem : ∀ x, x ∈ O ↔ x ∈ L ∧ x ≠ f ∧ Rim t L x) (ndO : O.Nodup) (hp : S.Perm O) (hs : S.Pairwise fun a b => befN t f O a ≤ befN t f O b) : Rnd t L f S where
  fL := fL
  fR := fR
  mem := fun x => by rw [hp.mem_iff, mem]
  nds := hp.nodup_iff.mpr ndO
  ord := by
    have nds : S.Nodup := hp.nodup_iff.mpr ndO
    refine (List.Pairwise.and hs nds).imp_of_mem fun {a b} ha hb h => ?_
    obtain ⟨aL, af, aR⟩ := (mem a).mp (hp.mem_iff.mp ha)
    obtain ⟨bL, bf, bR⟩ := (mem b).mp (hp.mem_iff.mp hb)
    have ab : a ≠ b := h.2
    rcases T.pm f a b (hL f fL) (hL a aL) (hL b bL) (Ne.symm af) (Ne.symm bf) ab with z | z
    · exact z
    · exfalso
      have hba : t f b a = 1 := by
        have := T.al.s2 f a b (Ne.symm af) (Ne.symm bf) ab
        omega
      have lt : befN t f O b < befN t f O a := by
        refine filter_lt (b := b) (fun r hr hq => ?_) (hp.mem_iff.mp hb) ?_ ?_
        · obtain ⟨rL, rf, rR⟩ := (mem r).mp hr
          rw [Bool.and_eq_true, decide_eq_true_eq, decide_eq_true_eq] at hq ⊢
          have ra : r ≠ a := fun w => by
            subst w
            omega
          refine ⟨ra, ?_⟩
          have h1 := fR r b a rL bL aL rf bf af hq.1 ra (Ne.symm ab)
          have e1 := T.al.s2 f r a (Ne.symm rf) (Ne.symm af) ra
          rcases T.pm f r a (hL f fL) (hL r rL) (hL a aL) (Ne.symm rf) (Ne.symm af) ra with w | w
          · exact w
          · rw [insT3_iff.mpr ⟨by omega, by omega⟩] at h1
            cases h1
        · rw [Bool.and_eq_true, decide_eq_true_eq, decide_eq_true_eq]
          exact ⟨Ne.symm ab, hba⟩
        · rw [decide_eq_false (fun w => w rfl), Bool.false_and]
      have := h.1
      omega
end
end Mir
namespace Mir
open PySem PySem.Spec L2
theorem crs_ident (p a b c : Pt) : crs p b c * (a.1 - p.1) + crs p c a * (b.1 - p.1) + crs p a b * (c.1 - p.1) = 0 := by unfold crs; grind
theorem crs_flat {p a b : Pt} (h1 : a.1 - p.1 = 0) (h2 : b.1 - p.1 = 0) : crs p a b = 0 := by unfold crs; rw [h1, h2]; simp
theorem min_ex (g : Nat → Int) : ∀ L : List Nat, L ≠ [] → ∃ p, p ∈ L ∧ ∀ q, q ∈ L → g p ≤ g q
  | [], h => absurd rfl h
  | [a], _ => ⟨a, by simp, fun q hq => by rw [List.mem_singleton.mp hq]; exact Int.le_refl _⟩
  | a :: b :: L, _ => by
    obtain ⟨p, hp, h⟩ := min_ex g (b :: L) (by simp)
    by_cases z : g a ≤ g p
    · exact ⟨a, by simp, fun q hq => (List.mem_cons.mp hq).elim (fun e => by rw [e]; exact Int.le_refl _) fun m => Int.le_trans z (h q m)⟩
    · exact ⟨p, List.mem_cons_of_mem _ hp, fun q hq => (List.mem_cons.mp hq).elim (fun e => by rw [e]; omega) fun m => h q m⟩
theorem pos3 {x y z u v w : Int} (hx : 0 < x) (hy : 0 < y) (hz : 0 < z) (hu : 0 ≤ u) (hv : 0 ≤ v) (hw : 0 ≤ w) (h : x * u + y * v + z * w = 0) : u = 0 ∧ v = 0 ∧ w = 0 := by
  have h1 := Int.mul_nonneg (Int.le_of_lt hx) hu
  have h2 := Int.mul_nonneg (Int.le_of_lt hy) hv
  have h3 := Int.mul_nonneg (Int.le_of_lt hz) hw
  have k : ∀ {a b : Int}, 0 < a → 0 ≤ b → a * b = 0 → b = 0 := fun {a b} ha _ e => (Int.mul_eq_zero.mp e).elim (fun z => by omega) id
  exact ⟨k hx hu (by omega), k hy hv (by omega), k hz hw (by omega)⟩
theorem rim_ex {ps : List Pt} (g : GP ps) {L : List Nat} (hL : ∀ x, x ∈ L → x < ps.length) (ne : L ≠ []) : ∃ p, p ∈ L ∧ Rim (ptT ps) L p := by
  obtain ⟨p, hp, hm⟩ := min_ex (fun k => (gp ps k).1) L ne
  refine ⟨p, hp, fun a b c ha hb hc pa pb pc ab ac bc => ?_⟩
  cases e : insT3 (ptT ps) p a b c with
  | false => rfl
  | true =>
    exfalso
    obtain ⟨e1, e2⟩ := insT3_iff.mp e
    have id := crs_ident (gp ps p) (gp ps a) (gp ps b) (gp ps c)
    have da : 0 ≤ (gp ps a).1 - (gp ps p).1 := by have := hm a ha; omega
    have db : 0 ≤ (gp ps b).1 - (gp ps p).1 := by have := hm b hb; omega
    have dc : 0 ≤ (gp ps c).1 - (gp ps p).1 := by have := hm c hc; omega
    have s1 := sgn_cases (crs (gp ps p) (gp ps a) (gp ps b))
    have s2 := sgn_cases (crs (gp ps p) (gp ps b) (gp ps c))
    have s3 := sgn_cases (crs (gp ps p) (gp ps c) (gp ps a))
    have e1 : sgn (crs (gp ps p) (gp ps a) (gp ps b)) = sgn (crs (gp ps p) (gp ps b) (gp ps c)) := e1
    have e2 : sgn (crs (gp ps p) (gp ps b) (gp ps c)) = sgn (crs (gp ps p) (gp ps c) (gp ps a)) := e2
    have n1 : crs (gp ps p) (gp ps a) (gp ps b) ≠ 0 := g.all (hL p hp) (hL a ha) (hL b hb) (Ne.symm pa) (Ne.symm pb) ab
    have fin : (gp ps a).1 - (gp ps p).1 = 0 ∧ (gp ps b).1 - (gp ps p).1 = 0 ∧ (gp ps c).1 - (gp ps p).1 = 0 := by
      rcases s1 with ⟨h1, k1⟩ | ⟨h1, k1⟩ | ⟨h1, k1⟩
      · exact pos3 (x := crs (gp ps p) (gp ps b) (gp ps c)) (y := crs (gp ps p) (gp ps c) (gp ps a)) (z := crs (gp ps p) (gp ps a) (gp ps b)) (by omega) (by omega) h1 da db dc id
      · refine pos3 (x := -crs (gp ps p) (gp ps b) (gp ps c)) (y := -crs (gp ps p) (gp ps c) (gp ps a)) (z := -crs (gp ps p) (gp ps a) (gp ps b)) (by omega) (by omega) (by omega) da db dc ?_
        rw [Int.neg_mul, Int.neg_mul, Int.neg_mul]
        omega
      · exact absurd h1 n1
    exact n1 (crs_flat fin.1 fin.2.1)
end Mir
namespace Mir
open PySem PySem.Spec L2
theorem compF_map10 {α : Type} {W : D → M Bool} {f : α → Bool} (h : α → D) {l : List α} {i : M (List D)} (hi : i = .ok (l.map h)) (hl : l.length < 1000000) (hw : ∀ x ∈ l, W (h x) = .ok (f x)) : lcM i (fun v => elM (W v) (.ok v)) = .ok (.lst ((l.filter f).map h)) := by
  refine lcM_ok hi (compL_map h (fun w => if f w = true then [h w] else []) fun w hx => ?_) ?_ |>.trans ?_
  · rw [hw w hx]
    cases f w
    · exact elM_f
    · exact elM_t rfl
  · have := len_flat (g := fun w => if f w = true then [h w] else []) (k := 1) (l := l) fun x _ => by split <;> simp
    omega
  · refine congrArg (fun l => M.ok (D.lst l)) ?_
    clear hi hl hw
    induction l with
    | nil => rfl
    | cons w l ih =>
      rw [List.flatMap_cons, ih, List.filter_cons]
      split <;> simp
theorem eqT10 (x y : Nat) : (eqF (D.int y) (D.int x) = true) ↔ y = x := by
  show (((y : Int) == (x : Int)) = true) ↔ _
  rw [beq_iff_eq]
  omega
theorem mem10 {neg : Bool} {x : Nat} {l : List Nat} : memD neg (.int x) (natsL l) = .ok (.bl (if neg = true then !decide (x ∈ l) else decide (x ∈ l))) := by
  have h1 : (natsD l).all flatD = true := by
    rw [List.all_eq_true]
    intro d hd
    obtain ⟨w, _, rfl⟩ := List.mem_map.mp hd
    rfl
  have h2 : inD (.int x) (natsD l) = decide (x ∈ l) := by
    unfold inD
    rw [Bool.eq_iff_iff, List.any_eq_true, decide_eq_true_iff]
    constructor
    · rintro ⟨d, hd, he⟩
      obtain ⟨w, hw, rfl⟩ := List.mem_map.mp hd
      rw [← (eqT10 x w).mp he]
      exact hw
    · exact fun h => ⟨.int x, List.mem_map.mpr ⟨x, h, rfl⟩, (eqT10 x x).mpr rfl⟩
  show (if flatD (D.int x) = true ∧ (natsD l).all flatD = true then M.ok (D.bl (if neg = true then !inD (D.int x) (natsD l) else inD (D.int x) (natsD l))) else M.stk) = _
  rw [if_pos ⟨rfl, h1⟩, h2]
def nI (L : List Nat) : List Int := L.map fun k : Nat => (k : Int)
theorem natsL_nI {L : List Nat} : D.lst ((nI L).map D.int) = natsL L := by
  unfold natsL natsD nI
  rw [List.map_map]
  rfl
theorem natsD_nI {L : List Nat} : (nI L).map D.int = natsD L := by
  unfold natsD nI
  rw [List.map_map]
  rfl
section
variable {n : Nat} {t : Tn}
theorem rimM_ok (T : Tb n t) {L : List Nat} (nd : L.Nodup) (hL : ∀ x, x ∈ L → x < n) (hl : L.length < 1000) : rimM (tabD n t) (natsL L) = .ok (natsL (L.filter (rimB t L))) :=
  compF_map10 (fun k : Nat => D.int k) (l := L) rfl (by omega) fun x hx => by
    rw [b1_ok (f := pyFld 1 "letters"), fld_letters, c3 (m := m_on_rim), on_rim_ok T nd hL hl (hL x hx)]
    rfl
theorem leftM_ok {L R : List Nat} (hl : L.length < 1000) : leftM (natsL L) (natsL R) = .ok (natsL (L.filter fun x => !decide (x ∈ R))) :=
  compF_map10 (fun k : Nat => D.int k) (l := L) rfl (by omega) fun x hx => by
    rw [b2_ok, mem10, if_pos rfl]
    rfl
theorem bef_one (T : Tb n t) {O : List Nat} {f q : Nat} (hf : f < n) (hO : ∀ x, x ∈ O → x < n ∧ x ≠ f) (hl : O.length < 1000) (hq : q ∈ O) :
    b1 pyLen (mlist [lcM (b1 pyItems (.ok (natsL O))) (fun v6_r => elM (andM (b1 isB (b2 pyNe (.ok v6_r) (.ok (.int (q : Nat))))) (b1 isB (b2 pyEq (b1 m_turn_of (mlist [.ok (strD (lw n t)), .ok (.int (f : Nat)), .ok v6_r, .ok (.int (q : Nat))])) (.ok (.int 1))))) (.ok v6_r))]) = .ok (.int (befN t f O q : Nat)) := by
  rw [compF_map10 (i := b1 pyItems (.ok (natsL O))) (fun k : Nat => D.int k) (f := fun r => decide (r ≠ q) && decide (t f r q = 1)) (l := O) rfl (by omega) fun x hx => ?_]
  · exact len_nats
  · rw [b2_ok (f := pyNe), ne_ii, b1_ok, isB_bl, andM_ok]
    by_cases z : x = q
    · subst z
      simp
    · have z' : ¬ (x : Int) = (q : Int) := by omega
      rw [decide_eq_false z', Bool.not_false, if_pos rfl, turn_t T hf (hO x hx).1 (hO q hq).1 (Ne.symm (hO x hx).2) (Ne.symm (hO q hq).2) z, b2_ok, eq_ii, b1_ok, isB_bl, decide_eq_true z, Bool.true_and]
theorem dcL_new {F : D → M (Option (Key × D))} {g : Nat → Nat} : ∀ {l : List Nat} {acc : List (Key × D)}, l.Nodup → (∀ q, q ∈ l → F (.int (q : Nat)) = .ok (some (.inl (q : Int), .int (g q : Nat)))) → (∀ kv, kv ∈ acc → ∀ q, q ∈ l → kv.1 ≠ .inl (q : Int)) → dcL F (natsD l) acc = .ok (acc ++ l.map fun q : Nat => (.inl (q : Int), .int (g q : Nat)))
  | [], acc, _, _, _ => by
    show M.ok acc = _
    simp
  | q :: l, acc, nd, h, ha => by
    obtain ⟨n1, n2⟩ := List.nodup_cons.mp nd
    show (F (.int (q : Nat))).bind (fun o => dcL F (natsD l) (putO acc o)) = _
    rw [h q (by simp), bind_ok]
    have e : putO acc (some (.inl (q : Int), .int (g q : Nat))) = acc ++ [(.inl (q : Int), .int (g q : Nat))] := put_new fun kv hkv => ha kv hkv q (by simp)
    rw [e, dcL_new n2 (fun x hx => h x (by simp [hx])) ?_, List.append_assoc]
    · rfl
    · intro kv hkv x hx
      rcases List.mem_append.mp hkv with z | z
      · exact ha kv z x (by simp [hx])
      · rw [List.mem_singleton.mp z]
        intro w
        have w : (q : Int) = (x : Int) := Sum.inl.inj w
        have : q = x := by omega
        exact n1 (by rw [this]; exact hx)
theorem bef_ok (T : Tb n t) {O : List Nat} {f : Nat} (hf : f < n) (nd : O.Nodup) (hO : ∀ x, x ∈ O → x < n ∧ x ≠ f) (hl : O.length < 1000) :
    ∃ kvs, befM (strD (lw n t)) (.int (f : Nat)) (.lst ((nI O).map D.int)) = .ok (.dks kvs) ∧ ∀ x, x ∈ nI O → valD kvs (.inl x) = some (.int (befN t f O x.toNat : Nat)) := by
  refine ⟨O.map fun q : Nat => (.inl (q : Int), .int (befN t f O q : Nat)), ?_, fun x hx => ?_⟩
  · rw [natsL_nI]
    unfold befM dcM
    show ((dcL _ (natsD O) []).nox).bind _ = _
    rw [dcL_new (g := befN t f O) nd (fun q hq => ?_) (fun kv h => by cases h)]
    · show (if (natsD O).length ≤ sizeLine then M.ok (D.dks _) else .stk) = _
      rw [if_pos (by unfold natsD; rw [List.length_map, sizeLine_eq]; omega)]
      rfl
    · rw [bef_one T hf hO hl hq]
      rfl
  · obtain ⟨q, hq, rfl⟩ := List.mem_map.mp hx
    refine valD_of (List.mem_map.mpr ⟨q, hq, rfl⟩) fun kv hkv e => ?_
    obtain ⟨r, hr, rfl⟩ := List.mem_map.mp hkv
    have e : (r : Int) = (q : Int) := Sum.inl.inj e
    have : r = q := by omega
    rw [this]
    rfl
def srt (t : Tn) (f : Nat) (O : List Nat) : List Nat := O.mergeSort fun a b => decide (befN t f O a ≤ befN t f O b)
theorem srt_perm {f : Nat} {O : List Nat} : (srt t f O).Perm O := List.mergeSort_perm _ _
theorem srt_pw {f : Nat} {O : List Nat} : (srt t f O).Pairwise fun a b => befN t f O a ≤ befN t f O b := by
  have h := List.pairwise_mergeSort (le := fun a b => decide (befN t f O a ≤ befN t f O b)) (fun a b c h1 h2 => by simp only [decide_eq_true_eq] at *; omega) (fun a b => by simp only [Bool.or_eq_true, decide_eq_true_eq]; omega) O
  exact h.imp fun h => of_decide_eq_true h
theorem srt_int {f : Nat} {O : List Nat} : sortK (fun x => (befN t f O x.toNat : Nat)) (nI O) = nI (srt t f O) := by
  unfold sortK srt nI
  rw [List.map_mergeSort (s := fun a b : Int => decide (((befN t f O a.toNat : Nat) : Int) ≤ ((befN t f O b.toNat : Nat) : Int)))]
  intro a _ b _
  show decide (befN t f O a ≤ befN t f O b) = decide (((befN t f O a : Nat) : Int) ≤ ((befN t f O b : Nat) : Int))
  refine decide_eq_decide.mpr ?_
  omega
theorem iro_ok (T : Tb n t) {O : List Nat} {f : Nat} (hf : f < n) (nd : O.Nodup) (hO : ∀ x, x ∈ O → x < n ∧ x ≠ f) (hl : O.length < 1000) : IroOk (strD (lw n t)) (natsL (f :: O)) (nI (f :: srt t f O)) := by
  obtain ⟨kvs, h1, h2⟩ := bef_ok T hf nd hO hl
  refine ⟨(f : Int), nI O, kvs, fun x => (befN t f O x.toNat : Nat), ?_, h1, h2, ?_, ?_⟩
  · rw [natsD_nI]
    rfl
  · rw [srt_int]
    rfl
  · unfold nI
    rw [List.length_map, sizeLine_eq]
    omega
end
end Mir
namespace Mir
open PySem PySem.Spec L2
theorem last10I {α : Type} {xs : List α} {x : α} (h : xs.getLast? = some x) : atI xs (-1) = some x := by
  rw [List.getLast?_eq_getElem?] at h
  have hl : 0 < xs.length := by
    cases xs with
    | nil => simp at h
    | cons _ _ => simp
  unfold atI ixN
  rw [if_neg (by decide), if_pos (by omega)]
  rw [show (-1 + (xs.length : Int)).toNat = xs.length - 1 by omega]
  exact h
theorem compH10 {α : Type} {W : D → M Bool} {e : D → M D} {f : α → Bool} {g : α → D} (h : α → D) {l : List α} {i : M (List D)} (hi : i = .ok (l.map h)) (hl : l.length < 1000000) (hw : ∀ x ∈ l, W (h x) = .ok (f x)) (he : ∀ x ∈ l, f x = true → e (h x) = .ok (g x)) : lcM i (fun v => elM (W v) (e v)) = .ok (.lst ((l.filter f).map g)) := by
  refine lcM_ok hi (compL_map h (fun w => if f w = true then [g w] else []) fun w hx => ?_) ?_ |>.trans ?_
  · rw [hw w hx]
    cases q : f w
    · exact elM_f
    · exact elM_t (he w hx q)
  · have := len_flat (g := fun w => if f w = true then [g w] else []) (k := 1) (l := l) fun x _ => by split <;> simp
    omega
  · refine congrArg (fun l => M.ok (D.lst l)) ?_
    clear hi hl hw he
    induction l with
    | nil => rfl
    | cons w l ih =>
      rw [List.flatMap_cons, ih, List.filter_cons]
      split <;> simp
theorem memI10 {neg : Bool} {x : Int} {l : List Int} : memD neg (.int x) (.lst (l.map D.int)) = .ok (.bl (if neg = true then !decide (x ∈ l) else decide (x ∈ l))) := by
  have h1 : (l.map D.int).all flatD = true := by
    rw [List.all_eq_true]
    intro d hd
    obtain ⟨w, _, rfl⟩ := List.mem_map.mp hd
    rfl
  have eqT : ∀ y : Int, (eqF (D.int y) (D.int x) = true) ↔ y = x := fun y => by
    show ((y == x) = true) ↔ _
    rw [beq_iff_eq]
  have h2 : inD (.int x) (l.map D.int) = decide (x ∈ l) := by
    unfold inD
    rw [Bool.eq_iff_iff, List.any_eq_true, decide_eq_true_iff]
    constructor
    · rintro ⟨d, hd, he⟩
      obtain ⟨w, hw, rfl⟩ := List.mem_map.mp hd
      rw [← (eqT w).mp he]
      exact hw
    · exact fun h => ⟨.int x, List.mem_map.mpr ⟨x, h, rfl⟩, (eqT x).mpr rfl⟩
  show (if flatD (D.int x) = true ∧ (l.map D.int).all flatD = true then M.ok (D.bl (if neg = true then !inD (D.int x) (l.map D.int) else inD (D.int x) (l.map D.int))) else M.stk) = _
  rw [if_pos ⟨rfl, h1⟩, h2]
section
variable {n : Nat} {t : Tn}
def nxB (t : Tn) (L : List Nat) (p q : Nat) : Bool := decide (q ≠ p) && !decide ((-1 : Int) ∈ (L.filter fun r => decide (r ≠ p) && decide (r ≠ q)).map fun r => t p q r)
theorem nxB_iff (T : Tb n t) {L : List Nat} (hL : ∀ x, x ∈ L → x < n) {p q : Nat} (hp : p < n) (hq : q ∈ L) : nxB t L p q = true ↔ Nx t L p q := by
  unfold nxB
  rw [Bool.and_eq_true, decide_eq_true_eq, Bool.not_eq_true', decide_eq_false_iff_not]
  constructor
  · rintro ⟨h1, h2⟩
    refine ⟨hq, h1, fun r hr r1 r2 => ?_⟩
    rcases T.pm p q r hp (hL q hq) (hL r hr) (Ne.symm h1) (Ne.symm r1) (Ne.symm r2) with z | z
    · exact z
    · exact absurd (List.mem_map.mpr ⟨r, List.mem_filter.mpr ⟨hr, by simp [r1, r2]⟩, z⟩) h2
  · intro h
    refine ⟨h.ne, fun m => ?_⟩
    obtain ⟨r, hr, e⟩ := List.mem_map.mp m
    obtain ⟨h1, h2⟩ := List.mem_filter.mp hr
    rw [Bool.and_eq_true, decide_eq_true_eq, decide_eq_true_eq] at h2
    have := h.all r h1 h2.1 h2.2
    omega
def nxI (t : Tn) (L : List Nat) (p : Nat) : Int := match L.find? (nxB t L p) with
  | some q => (q : Int)
  | none => -1
theorem next_ok (T : Tb n t) {L : List Nat} (hL : ∀ x, x ∈ L → x < n) (hl : L.length < 1000) {p : Nat} (hp : p < n) : m_l_next [.dct (turnsK n t), natsL L, .int (p : Nat)] = .ok (.int (nxI t L p)) := by
  show (c_l_next (.dct (turnsK n t)) (natsL L) (.int (p : Nat))).toM = _
  unfold c_l_next
  rw [b1_ok (f := pyItems), items_nats, bindC_ok]
  unfold natsD
  rw [loopM_find (fun k : Nat => D.int k) (fun q => if nxB t L p q = true then some (.int (q : Nat)) else none) fun q hq => ?_]
  · have key : ∀ l : List Nat, (l.findSome? fun q => if nxB t L p q = true then some (D.int (q : Nat)) else none) = (l.find? (nxB t L p)).map fun q => D.int (q : Nat) := fun l => by
      induction l with
      | nil => rfl
      | cons a l ih =>
        rw [List.findSome?_cons, List.find?_cons]
        cases nxB t L p a
        · exact ih
        · rfl
    rw [key]
    unfold nxI
    cases L.find? (nxB t L p) with
    | none => rfl
    | some q => rfl
  · rw [b2_ok (f := pyNe), ne_ii, b1_ok, isB_bl, bindC_ok]
    by_cases z : q = p
    · subst z
      rw [decide_eq_true rfl]
      unfold nxB
      rw [show decide (q ≠ q) = false from by simp]
      rfl
    · have z' : ¬ (q : Int) = (p : Int) := by omega
      rw [decide_eq_false z', Bool.not_false, if_pos rfl]
      rw [compH10 (i := .ok (L.map fun k : Nat => D.int k)) (fun k : Nat => D.int k) (f := fun r => decide (r ≠ p) && decide (r ≠ q)) (g := fun r => D.int (t p q r)) (l := L) rfl (by omega) (fun r hr => ?_) (fun r hr hf => ?_), bindC_ok]
      · rw [show b1 pyNeg (.ok (.int 1)) = .ok (.int (-1)) from rfl, b2_ok]
        have e : ((L.filter fun r => decide (r ≠ p) && decide (r ≠ q)).map fun r => D.int (t p q r)) = ((L.filter fun r => decide (r ≠ p) && decide (r ≠ q)).map fun r => t p q r).map D.int := by rw [List.map_map]; rfl
        rw [e, memI10, if_pos rfl, b1_ok, isB_bl, bindC_ok]
        unfold nxB
        rw [decide_eq_true z, Bool.true_and]
        split <;> rfl
      · rw [b2_ok (f := pyNe), ne_ii, b1_ok, isB_bl, andM_ok, b2_ok (f := pyNe), ne_ii, b1_ok, isB_bl]
        by_cases y : r = p
        · subst y
          simp
        · have y' : ¬ (r : Int) = (p : Int) := by omega
          rw [decide_eq_false y', Bool.not_false, if_pos rfl, decide_eq_true y, Bool.true_and]
          refine congrArg M.ok ?_
          by_cases w : r = q
          · subst w
            simp
          · rw [decide_eq_true w, decide_eq_false (by omega)]
            rfl
      · rw [Bool.and_eq_true, decide_eq_true_eq, decide_eq_true_eq] at hf
        rw [tup3, b2_ok, ix_turns hp (hL q hq) (hL r hr) (Ne.symm z) (Ne.symm hf.1) (Ne.symm hf.2)]
end
end Mir
namespace Mir
open PySem PySem.Spec L2
section
variable {n : Nat} {t : Tn} {L : List Nat}
theorem two_of (nd : L.Nodup) (h : 2 ≤ L.length) (p : Nat) : ∃ x, x ∈ L ∧ x ≠ p := by
  match L, nd, h with
  | a :: b :: r, nd, _ =>
    by_cases z : a = p
    · refine ⟨b, by simp, fun w => ?_⟩
      have := (List.nodup_cons.mp nd).1
      exact this (by rw [z, ← w]; simp)
    · exact ⟨a, by simp, z⟩
theorem nxI_of (T : Tb n t) (hL : ∀ x, x ∈ L → x < n) {p q : Nat} (hp : p ∈ L) (h : Nx t L p q) : nxI t L p = q := by
  unfold nxI
  cases e : L.find? (nxB t L p) with
  | none =>
    have := List.find?_eq_none.mp e q h.mem
    exact absurd ((nxB_iff T hL (hL p hp) h.mem).mpr h) this
  | some q' =>
    have m := List.mem_of_find?_eq_some e
    have k := (nxB_iff T hL (hL p hp) m).mp (List.find?_some e)
    have := nx_one T.al k h
    subst this
    rfl
theorem nxI_rim (T : Tb n t) (nd : L.Nodup) (hL : ∀ x, x ∈ L → x < n) (h3 : 2 ≤ L.length) {p : Nat} (hp : p ∈ L) : decide ((0 : Int) ≤ nxI t L p) = rimB t L p := by
  rw [Bool.eq_iff_iff, decide_eq_true_eq, rimB_iff T.al nd]
  constructor
  · intro h
    unfold nxI at h
    cases e : L.find? (nxB t L p) with
    | none => rw [e] at h; exact absurd h (by decide)
    | some q =>
      have m := List.mem_of_find?_eq_some e
      have k := (nxB_iff T hL (hL p hp) m).mp (List.find?_some e)
      exact way_rim T hL (hL p hp) k.mem k.ne k.all
  · intro R
    obtain ⟨q, hq⟩ := rim_nx T hL nd hp (two_of nd h3 p) R
    rw [nxI_of T hL hp hq]
    omega
theorem rnd_of (T : Tb n t) (nd : L.Nodup) (hL : ∀ x, x ∈ L → x < n) {f : Nat} {O : List Nat} (hr : L.filter (rimB t L) = f :: O) : Rnd t L f (srt t f O) ∧ O.Nodup ∧ f ∈ L ∧ (∀ x, x ∈ O → x ∈ L ∧ x ≠ f) ∧ (f :: srt t f O).length ≤ L.length := by
  have nf : (f :: O).Nodup := by rw [← hr]; exact nd.filter _
  obtain ⟨n1, n2⟩ := List.nodup_cons.mp nf
  have mem : ∀ x, x ∈ f :: O ↔ x ∈ L ∧ Rim t L x := fun x => by rw [← hr, List.mem_filter, rimB_iff T.al nd]
  have hf := (mem f).mp (by simp)
  have hO : ∀ x, x ∈ O ↔ x ∈ L ∧ x ≠ f ∧ Rim t L x := fun x => by
    constructor
    · intro h
      have := (mem x).mp (by simp [h])
      exact ⟨this.1, fun z => n1 (by rw [← z]; exact h), this.2⟩
    · rintro ⟨h1, h2, h3⟩
      have := (mem x).mpr ⟨h1, h3⟩
      rcases List.mem_cons.mp this with z | z
      · exact absurd z h2
      · exact z
  refine ⟨rnd_sorted T hL hf.1 hf.2 hO n2 srt_perm srt_pw, n2, hf.1, fun x hx => ⟨((hO x).mp hx).1, ((hO x).mp hx).2.1⟩, ?_⟩
  rw [List.length_cons, srt_perm.length_eq, ← List.length_cons, ← hr]
  exact List.length_filter_le _ _
theorem round_big (T : Tb n t) (nd : L.Nodup) (hL : ∀ x, x ∈ L → x < n) (hl : L.length < 1000) (h3 : 3 ≤ L.length) {f : Nat} {O : List Nat} (hr : L.filter (rimB t L) = f :: O) : m_l_round [.dct (turnsK n t), natsL L] = .ok (natsL (f :: srt t f O)) := by
  obtain ⟨R, ndO, fL, hO, hlen⟩ := rnd_of T nd hL hr
  have ndW : (f :: srt t f O).Nodup := List.nodup_cons.mpr ⟨fun h => ((hO f ((srt_perm (t := t) (f := f)).mem_iff.mp h)).2 rfl), R.nds⟩
  have inL : ∀ x, x ∈ f :: srt t f O → x ∈ L := fun x hx => (List.mem_cons.mp hx).elim (fun e => by rw [e]; exact fL) fun m => (hO x (srt_perm.mem_iff.mp m)).1
  have nx := rnd_nx T hL nd R (two_of nd (by omega) f)
  have main : RetIs (c_l_round (.dct (turnsK n t)) (natsL L)) fun d => d = natsL (f :: srt t f O) := by
    unfold c_l_round
    rw [len_nats, b2_ok (f := pyLt), lt_f (by omega), b1_ok (f := isB), isB_bl, bindC_ok, if_neg Bool.false_ne_true]
    rw [compF_map10 (i := b1 pyItems (.ok (natsL L))) (fun k : Nat => D.int k) (f := rimB t L) (l := L) rfl (by omega) (fun p hp => ?_)]
    · rw [hr, show M.ok (D.lst ((f :: O).map fun k : Nat => D.int k)) = .ok (natsL (f :: O)) from rfl, show b2 pyIx (.ok (natsL (f :: O))) (.ok (.int 0)) = .ok (.int (f : Nat)) from ix_nats (k := 0) (by simp), bindC_ok]
      rw [show b1 mkLst (mlist [.ok (.int (f : Nat))]) = .ok (natsL [f]) from (if_pos (show 1 ≤ sizeLine by rw [sizeLine_eq]; decide) : (if [D.int (f : Nat)].length ≤ sizeLine then M.ok (D.lst [.int (f : Nat)]) else M.stk) = _), bindC_ok]
      rw [range_n (by omega), bindC_ok]
      refine NxIs.ret (loopR_nx (fun k d => d = natsL ((f :: srt t f O).take (k + 1))) rfl ?_) ?_
      · rintro k d hk rfl
        generalize hW : f :: srt t f O = W at *
        have hW0 : 0 < W.length := by rw [← hW]; simp
        by_cases hlt : k + 1 < W.length
        · have hk' : k < W.length := by omega
          have hq := nx k W[k] (List.getElem?_eq_getElem hk')
          rw [List.getElem?_eq_getElem hlt, Option.getD_some] at hq
          have hne : W[k + 1] ≠ f := fun z => by
            have h0 : W[0] = f := by simp only [← hW]; rfl
            have := nodup_inj ndW hlt hW0 (z.trans h0.symm)
            omega
          have hpL := inL _ (List.getElem_mem hk')
          have elast : (natsD (W.take (k + 1))).getLast? = some (.int (W[k] : Nat)) := by
            rw [List.getLast?_eq_getElem?]
            unfold natsD
            rw [List.length_map, List.length_take, List.getElem?_map, Nat.min_eq_left (by omega), Nat.add_sub_cancel, List.getElem?_take_of_lt (Nat.lt_succ_self k), List.getElem?_eq_getElem hk']
            rfl
          have e1 : b2 pyIx (.ok (natsL (W.take (k + 1)))) (b1 pyNeg (.ok (.int 1))) = .ok (.int (W[k] : Nat)) := by
            show ofOpt (atI (natsD (W.take (k + 1))) (-1)) = _
            rw [last10I elast]
            rfl
          rw [e1, c3 (m := m_l_next), next_ok T hL hl (hL _ hpL), nxI_of T hL hpL hq]
          rw [show flatM (.ok (.int (W[k + 1] : Nat))) = .ok (.int (W[k + 1] : Nat)) from rfl, bindC_ok, b2_ok (f := pyNe), ne_t (by omega), b1_ok, isB_bl, andM_ok, if_pos rfl, len_nats, b2_ok (f := pyAdd), add_ii, b2_ok, eq_t (by rw [List.length_take, Nat.min_eq_left (by omega)]; omega)]
          rw [show nofs (b1 isB (.ok (.bl true))) = .ok true from rfl, bindC_ok, if_pos rfl]
          have e2 : appM (natsL (W.take (k + 1))) (.ok (.int (W[k + 1] : Nat))) = .ok (natsL (W.take (k + 1) ++ [W[k + 1]])) := by
            show (if (natsD (W.take (k + 1))).length < sizeLine then M.ok (D.lst (natsD (W.take (k + 1)) ++ [.int (W[k + 1] : Nat)])) else .stk) = _
            rw [if_pos (by unfold natsD; rw [List.length_map, List.length_take, sizeLine_eq]; omega)]
            unfold natsL natsD
            rw [List.map_append]
            rfl
          rw [e2, bindC_ok, ctl_nx]
          exact .mk (by rw [List.take_append_getElem hlt])
        · have hall : W.take (k + 1) = W := List.take_of_length_le (by omega)
          have hall2 : W.take (k + 1 + 1) = W := List.take_of_length_le (by omega)
          rw [hall]
          have hj : W.length - 1 < W.length := by omega
          have hq := nx (W.length - 1) W[W.length - 1] (List.getElem?_eq_getElem hj)
          rw [List.getElem?_eq_none (by omega), Option.getD_none] at hq
          have hpL := inL _ (List.getElem_mem hj)
          have elast : (natsD W).getLast? = some (.int (W[W.length - 1] : Nat)) := by
            rw [List.getLast?_eq_getElem?]
            unfold natsD
            rw [List.length_map, List.getElem?_map, List.getElem?_eq_getElem hj]
            rfl
          have e1 : b2 pyIx (.ok (natsL W)) (b1 pyNeg (.ok (.int 1))) = .ok (.int (W[W.length - 1] : Nat)) := by
            show ofOpt (atI (natsD W) (-1)) = _
            rw [last10I elast]
            rfl
          rw [e1, c3 (m := m_l_next), next_ok T hL hl (hL _ hpL), nxI_of T hL hpL hq]
          rw [show flatM (.ok (.int (f : Nat))) = .ok (.int (f : Nat)) from rfl, bindC_ok, b2_ok (f := pyNe), ne_f rfl, b1_ok, isB_bl, andM_ok, if_neg Bool.false_ne_true]
          rw [show nofs (.ok false) = .ok false from rfl, bindC_ok, if_neg Bool.false_ne_true, ctl_nx]
          exact .mk (by rw [hall2])
      · rintro d rfl
        rw [bindC_ok]
        exact .mk (by rw [List.take_of_length_le (by omega)])
    · rw [c3 (m := m_l_next), next_ok T hL hl (hL p hp), b2_ok (f := pyGe), ge_ii, b1_ok, isB_bl, nxI_rim T nd hL (by omega) hp]
  obtain ⟨d, e, rfl⟩ := main
  show (c_l_round (.dct (turnsK n t)) (natsL L)).toM = _
  rw [e]
  rfl
theorem round_small {d : D} (h3 : L.length < 3) : m_l_round [d, natsL L] = .ok (natsL L) := by
  show (c_l_round d (natsL L)).toM = _
  unfold c_l_round
  rw [len_nats, b2_ok (f := pyLt), lt_t (by omega), b1_ok (f := isB), isB_bl, bindC_ok, if_pos rfl]
  rfl
end
end Mir
namespace Mir
open PySem PySem.Spec L2
inductive AK where
  | turn | rim | side | passes | inside | cross
def AK.s : AK → Str
  | .turn => "turn"
  | .rim => "rim"
  | .side => "side"
  | .passes => "passes"
  | .inside => "inside"
  | .cross => "cross"
def AK.ar : AK → Nat
  | .turn => 3
  | .rim => 1
  | .side => 2
  | .passes => 3
  | .inside => 4
  | .cross => 4
inductive Cl where
  | atom (k : AK) (ps : List Nat) (cnt : Nat) (w : Option Nat)
  | and (x y : Cl) | or (x y : Cl) | not (x : Cl)
def obC (k p w : D) : D := .obj 0 [("kind", k), ("parts", p), ("when", w)]
def Cl.dep : Cl → Nat
  | .atom .. => 0
  | .and x y => max x.dep y.dep + 1
  | .or x y => max x.dep y.dep + 1
  | .not x => x.dep + 1
def Cl.wf : Cl → Prop
  | .atom k ps _ _ => ps.length = k.ar ∧ ps.Nodup
  | .and x y => x.wf ∧ y.wf
  | .or x y => x.wf ∧ y.wf
  | .not x => x.wf
def Cl.at (m : Nat) : Cl → Cl
  | .atom k ps cnt none => .atom k ps cnt (some m)
  | .atom k ps cnt w => .atom k ps cnt w
  | .and x y => .and (x.at m) (y.at m)
  | .or x y => .or (x.at m) (y.at m)
  | .not x => .not (x.at m)
theorem fp {k p w : D} : pyFld 0 "parts" (obC k p w) = .ok p := by
  show ofOpt (([("kind", k), ("parts", p), ("when", w)] : List (Str × D)).lookup ("parts" : Str)) = _
  rw [List.lookup_cons, show (("parts" : Str) == ("kind" : Str)) = false by decide, List.lookup_cons]
  rfl
end Mir
namespace Mir
open PySem PySem.Spec L2
def okW (mo : Nat) : Option Nat → Bool
  | none => true
  | some m => decide (m < mo)
def Cl.val (n mo : Nat) : Cl → Bool
  | .atom _ ps _ w => ps.all (fun p => decide (p < n)) && okW mo w
  | .and x y => x.val n mo && y.val n mo
  | .or x y => x.val n mo && y.val n mo
  | .not x => x.val n mo
end Mir
namespace Mir
open PySem PySem.Spec L2
theorem rg_nats {n : Nat} (h : n < 1000) : b1 pyListRg (.ok (.int (n : Nat))) = .ok (natsL (List.range n)) := by
  rw [b1_ok, listRg_n h, natsL_ints]
  rfl
section
variable {n : Nat} {t : Tn}
end
end Mir
namespace Mir
open PySem PySem.Spec L2
section
variable {n : Nat} {t : Tn}
def atD (k : AK) (ps : List Nat) (cnt : Nat) (w : Int) : D := .tup [.str k.s, natsL ps, .int (cnt : Nat), .int w]
theorem at0 {k : AK} {ps : List Nat} {cnt : Nat} {w : Int} : pyIx (atD k ps cnt w) (.int 0) = .ok (.str k.s) ∧ pyIx (atD k ps cnt w) (.int 1) = .ok (natsL ps) ∧ pyIx (atD k ps cnt w) (.int 2) = .ok (.int (cnt : Nat)) ∧ pyIx (atD k ps cnt w) (.int 3) = .ok (.int w) := ⟨rfl, rfl, rfl, rfl⟩
theorem ks_ne : ∀ k j : AK, k ≠ j → k.s ≠ j.s := by
  intro k j h
  cases k <;> cases j <;> first | exact absurd rfl h | decide
end
end Mir
namespace Mir
open PySem PySem.Spec L2
section
variable {n : Nat} {t : Tn}
inductive Fo where
  | atom (k : AK) (ps : List Nat) (cnt : Nat) (w : Int)
  | not (f : Fo) | at (m : Nat) (f : Fo) | and (f g : Fo) | or (f g : Fo)
def foD : Fo → D
  | .atom k ps cnt w => atD k ps cnt w
  | .not f => .tup [.str "not", foD f]
  | .at m f => .tup [.str "at", .int (m : Nat), foD f]
  | .and f g => .tup [.str "and", foD f, foD g]
  | .or f g => .tup [.str "or", foD f, foD g]
def Fo.dep : Fo → Nat
  | .atom .. => 0
  | .not f => f.dep + 1
  | .at _ f => f.dep + 1
  | .and f g => max f.dep g.dep + 1
  | .or f g => max f.dep g.dep + 1
def Fo.wf (n mo : Nat) : Fo → Prop
  | .atom k ps _ w => k.ar ≤ ps.length ∧ ps.Nodup ∧ (∀ p ∈ ps, p < n) ∧ w < mo
  | .not f => f.wf n mo
  | .at m f => m < mo ∧ f.wf n mo
  | .and f g => f.wf n mo ∧ g.wf n mo
  | .or f g => f.wf n mo ∧ g.wf n mo
def Fo.cl (p : List Nat) : Fo → Cl
  | .atom k ps cnt w => if 0 ≤ w then .atom k ((ps.take k.ar).map (nm p)) cnt (some w.toNat) else .atom k ((ps.take k.ar).map (nm p)) cnt none
  | .not f => .not (f.cl p)
  | .at m f => (f.cl p).at m
  | .and f g => .and (f.cl p) (g.cl p)
  | .or f g => .or (f.cl p) (g.cl p)
end
end Mir
namespace Mir
open PySem PySem.Spec L2
section
variable {n : Nat}
theorem draw_i (l : List Int) (k : Nat) (many : Nat) (h : 0 < many) {kk mm : Int} (hk : kk = k) (hm : mm = many) : ∃ d : Nat, b1 m_l_draw (mlist [.ok (intsD l), .ok (.int kk), .ok (.int mm)]) = .ok (.int d) ∧ d < many := by
  obtain ⟨d, e, hd⟩ := draw_n l k many h
  subst hk hm
  exact ⟨d, by rw [b1_draw]; exact e, hd⟩
def fosD (fs : List Fo) : D := .lst (fs.map foD)
def FoOk (n mo k : Nat) (f : Fo) : Prop := f.wf n mo ∧ f.dep ≤ k
theorem FoOk.mono {n mo j k : Nat} {f : Fo} (h : FoOk n mo j f) (l : j ≤ k) : FoOk n mo k f := ⟨h.1, Nat.le_trans h.2 l⟩
structure StOk (n mo k : Nat) (d : D) : Prop where
  ex : ∃ fs f, d = fosD (fs ++ [f]) ∧ fs.length ≤ k ∧ (∀ g ∈ fs, FoOk n mo k g) ∧ FoOk n mo k f
end
end Mir
namespace Mir
open PySem PySem.Spec L2
def bd10 (v3_turns_here v9_k : D) (v8_j : D × D) : Ctl Unit (D × D) := (M.bindC (b1 isB (b2 pyNe (.ok v8_j.1) (b1 mkLst (mlist [])))) () fun c => if c = true then (M.bindC (b1 m_l_round (mlist [.ok v3_turns_here, .ok v8_j.1])) () fun v11_rim => M.bindC (appM v8_j.2 (.ok v11_rim)) () fun v12_due => M.bindC (lcM (b1 pyItems (.ok v8_j.1)) (fun v14_p => elM (b1 isB (b2 (memD true) (.ok v14_p) (.ok v11_rim))) (.ok v14_p))) () fun v13_group => .nx (v13_group, v12_due)) else (.nx (v8_j.1, v8_j.2)) : Ctl Unit (D × D)).bind fun (v10_j : D × D) => .nx (v10_j.1, v10_j.2)
theorem nil_ne {L : List Nat} : b1 isB (b2 pyNe (.ok (natsL L)) (b1 mkLst (mlist []))) = .ok (!decide (L = [])) := by
  have e0 : b1 mkLst (mlist []) = .ok (.lst []) := (if_pos (Nat.zero_le sizeLine) : (if ([] : List D).length ≤ sizeLine then M.ok (D.lst []) else M.stk) = _)
  have hs : stdD (natsL L) = true := stdDs_all fun d hd => by
    obtain ⟨k, _, rfl⟩ := List.mem_map.mp hd
    rfl
  have hd : depD (natsL L) ≤ 64 := by
    have : depDs (natsD L) ≤ 0 := depDs_le fun d hd => by
      obtain ⟨k, _, rfl⟩ := List.mem_map.mp hd
      exact Nat.le_refl _
    show depDs (natsD L) + 1 ≤ 64
    omega
  obtain ⟨b, _, e2, h⟩ := eq_std (y := .lst []) hs rfl hd (by decide)
  rw [e0, b2_ok, e2, b1_ok, isB_bl]
  refine congrArg (fun b => M.ok (!b)) ?_
  rw [Bool.eq_iff_iff, h, decide_eq_true_eq]
  cases L with
  | nil => exact ⟨fun _ => rfl, fun _ => rfl⟩
  | cons a r => exact ⟨fun z => by unfold natsL natsD at z; simp at z, fun z => by cases z⟩
theorem bd_nil {v k x : D} : bd10 v k (.lst [], x) = .nx (.lst [], x) := by
  have h : b1 isB (b2 pyNe (.ok (.lst [])) (b1 mkLst (mlist []))) = .ok false := nil_ne (L := [])
  unfold bd10
  dsimp only
  rw [h, bindC_ok, if_neg Bool.false_ne_true]
  rfl
theorem bd_nils {v x : D} : ∀ ds : List D, forC (bd10 v) ds (.lst [], x) = .nx (.lst [], x)
  | [] => rfl
  | d :: ds => by
    show (bd10 v d (.lst [], x)).bind (forC (bd10 v) ds) = _
    rw [bd_nil]
    exact bd_nils ds
section
variable {t : Tn} {n : Nat}
theorem small_rim {L : List Nat} (h : L.length < 3) (p : Nat) : Rim t L p := by
  intro a b c ha hb hc pa pb pc ab ac bc
  exfalso
  match L, h with
  | [], _ => cases ha
  | [x], _ =>
    have h1 := List.mem_singleton.mp ha
    have h2 := List.mem_singleton.mp hb
    exact ab (h1.trans h2.symm)
  | [x, y], _ =>
    have m : ∀ z, z ∈ [x, y] → z = x ∨ z = y := fun z hz => by simpa using hz
    rcases m a ha with h1 | h1 <;> rcases m b hb with h2 | h2 <;> rcases m c hc with h3 | h3 <;> first
      | exact ab (h1.trans h2.symm)
      | exact ac (h1.trans h3.symm)
      | exact bc (h2.trans h3.symm)
theorem step10 (T : Tb n t) (ex : ∀ L : List Nat, (∀ x, x ∈ L → x < n) → L ≠ [] → ∃ p, p ∈ L ∧ Rim t L p) {L : List Nat} (nd : L.Nodup) (hL : ∀ x, x ∈ L → x < n) (hl : L.length < 1000) (ne : L ≠ []) :
    ∃ (row : List Nat) (rim : D), row ≠ [] ∧ (∀ x, x ∈ row → x ∈ L) ∧ row.length ≤ L.length ∧ rimM (tabD n t) (natsL L) = .ok rim ∧ IroOk (strD (lw n t)) rim (nI row) ∧ leftM (natsL L) rim = .ok (natsL (L.filter fun x => !decide (x ∈ row))) ∧ m_l_round [.dct (turnsK n t), natsL L] = .ok (natsL row) := by
  obtain ⟨p, hp, R⟩ := ex L hL ne
  have hpm : p ∈ L.filter (rimB t L) := List.mem_filter.mpr ⟨hp, (rimB_iff T.al nd).mpr R⟩
  cases hr : L.filter (rimB t L) with
  | nil => rw [hr] at hpm; cases hpm
  | cons f O =>
    obtain ⟨RR, ndO, fL, hO, hlen⟩ := rnd_of T nd hL hr
    have hm : ∀ x, x ∈ f :: srt t f O ↔ x ∈ f :: O := fun x => by rw [List.mem_cons, List.mem_cons, srt_perm.mem_iff]
    refine ⟨f :: srt t f O, natsL (f :: O), by simp, fun x hx => ?_, hlen, ?_, ?_, ?_, ?_⟩
    · rcases List.mem_cons.mp ((hm x).mp hx) with z | z
      · rw [z]; exact fL
      · exact (hO x z).1
    · rw [rimM_ok T nd hL hl, hr]
    · have lO : O.length < 1000 := by
        have := srt_perm (t := t) (f := f) (O := O) |>.length_eq
        rw [List.length_cons] at hlen
        omega
      exact iro_ok T (hL f fL) ndO (fun x hx => ⟨hL x (hO x hx).1, (hO x hx).2⟩) lO
    · rw [leftM_ok hl]
      refine congrArg (fun l => M.ok (natsL l)) (List.filter_congr fun x _ => ?_)
      refine congrArg (! ·) (decide_eq_decide.mpr (hm x).symm)
    · by_cases h3 : 3 ≤ L.length
      · exact round_big T nd hL hl h3 hr
      · rw [round_small (by omega)]
        have e1 : L.filter (rimB t L) = L := List.filter_eq_self.mpr fun x _ => (rimB_iff T.al nd).mpr (small_rim (by omega) x)
        have e2 : L = f :: O := by rw [← e1]; exact hr
        have e3 : srt t f O = O := by
          have hO2 : O.length ≤ 1 := by
            have := congrArg List.length e2
            rw [List.length_cons] at this
            omega
          match O, hO2 with
          | [], _ => exact srt_perm.eq_nil
          | [x], _ => exact List.perm_singleton.mp srt_perm
        rw [e3, ← e2]
theorem peel10 (T : Tb n t) (ex : ∀ L : List Nat, (∀ x, x ∈ L → x < n) → L ≠ [] → ∃ p, p ∈ L ∧ Rim t L p) : ∀ (m : Nat) (L : List Nat), L.length ≤ m → L.length ≤ 8 → L.Nodup → (∀ x, x ∈ L → x < n) →
    ∃ rows : List (List Nat), Rims (tabD n t) (nI L) (rows.map nI) ∧ rows.length ≤ L.length ∧ (∀ r, r ∈ rows → r.length ≤ 8) ∧ ∀ (ds dd : List D), L.length ≤ ds.length → dd.length + L.length ≤ 100 → forC (bd10 (.dct (turnsK n t))) ds (natsL L, .lst dd) = .nx (.lst [], .lst (dd ++ rows.map natsL))
  | m, [], _, _, _, _ => ⟨[], .nil, Nat.le_refl _, fun r h => (by cases h), fun ds dd _ _ => by
      rw [List.map_nil, List.append_nil]
      exact bd_nils ds⟩
  | 0, a :: r, h, _, _, _ => by simp at h
  | m + 1, a :: r, h, h8, nd, hL => by
    generalize hLe : a :: r = L at *
    have ne : L ≠ [] := by rw [← hLe]; simp
    obtain ⟨row, rim, r1, r2, r3, e1, e2, e3, e4⟩ := step10 T ex nd hL (by omega) ne
    have nd' : (L.filter fun x => !decide (x ∈ row)).Nodup := nd.filter _
    have hL' : ∀ x, x ∈ L.filter (fun x => !decide (x ∈ row)) → x < n := fun x hx => hL x (List.mem_filter.mp hx).1
    have hlt : (L.filter fun x => !decide (x ∈ row)).length < L.length := by
      obtain ⟨y, hy⟩ := List.exists_mem_of_ne_nil row r1
      have := filter_lt (P := fun x => !decide (x ∈ row)) (Q := fun _ => true) (b := y) (O := L) (fun _ _ _ => rfl) (r2 y hy) rfl (by simp [hy])
      rw [List.filter_eq_self.mpr (fun _ _ => rfl)] at this
      exact this
    obtain ⟨rows, p1, p2, p3, p4⟩ := peel10 T ex m _ (by omega) (by omega) nd' hL'
    refine ⟨row :: rows, ?_, ?_, ?_, fun ds dd hds hdd => ?_⟩
    · refine .cons (L' := nI (L.filter fun x => !decide (x ∈ row))) (rim := rim) (l := strD (lw n t)) (fun z => ne ?_) ?_ rfl e2 ?_ p1
      · unfold nI at z
        exact List.map_eq_nil_iff.mp z
      · rw [natsL_nI]; exact e1
      · rw [natsL_nI, natsL_nI]; exact e3
    · rw [List.length_cons]
      omega
    · intro q hq
      rcases List.mem_cons.mp hq with z | z
      · rw [z]; omega
      · exact p3 q z
    · match ds, hds with
      | [], hds => exact absurd (Nat.le_zero.mp hds) (fun z => ne (List.length_eq_zero_iff.mp z))
      | d :: ds, hds =>
        show (bd10 (.dct (turnsK n t)) d (natsL L, .lst dd)).bind (forC (bd10 (.dct (turnsK n t))) ds) = _
        have eb : bd10 (.dct (turnsK n t)) d (natsL L, .lst dd) = .nx (natsL (L.filter fun x => !decide (x ∈ row)), .lst (dd ++ [natsL row])) := by
          unfold bd10
          dsimp only
          rw [nil_ne, decide_eq_false ne, Bool.not_false, bindC_ok, if_pos rfl, c2 (m := m_l_round), e4, bindC_ok]
          have ea : appM (.lst dd) (.ok (natsL row)) = .ok (.lst (dd ++ [natsL row])) := by
            show (if dd.length < sizeLine then M.ok (D.lst (dd ++ [natsL row])) else .stk) = _
            rw [if_pos (by rw [sizeLine_eq]; omega)]
          rw [ea, bindC_ok]
          have el := leftM_ok (L := L) (R := row) (by omega)
          unfold leftM at el
          rw [el, bindC_ok, ctl_nx]
        rw [eb, ctl_nx]
        rw [p4 ds (dd ++ [natsL row]) (by rw [List.length_cons] at hds; omega) (by rw [List.length_append, List.length_singleton]; omega), List.append_assoc]
        rfl
end
theorem rows_nI {rows : List (List Nat)} : rowsD (rows.map nI) = .lst (rows.map natsL) := by
  unfold rowsD
  rw [List.map_map]
  refine congrArg D.lst (List.map_congr_left fun r _ => ?_)
  exact natsL_nI
theorem law_k10_true (ns : List Int) (hn : ns.length ≤ 63) (_ : ∀ z ∈ ns, Builtin.Int.intBits z ≤ 1048576) : Law10 ns := by
  obtain ⟨l, hl, _⟩ := pool_ok ns hn
  obtain ⟨d0, e0, h0⟩ := draw_i l 0 6 (by decide) (kk := 0) (mm := 6) rfl rfl
  obtain ⟨d1, e1, h1⟩ := draw_i l 1 2 (by decide) (kk := 1) (mm := 2) rfl rfl
  obtain ⟨n, en, h3, h8⟩ : ∃ n : Nat, b2 pyAdd (.ok (.int 3)) (b2 pyMod (b2 pyAdd (.ok (.int (d0 : Nat))) (.ok (.int 4))) (.ok (.int 6))) = .ok (.int (n : Nat)) ∧ 3 ≤ n ∧ n ≤ 8 := by
    refine ⟨3 + (d0 + 4) % 6, ?_, by omega, by omega⟩
    rw [b2_ok, add_ii, b2_ok, mod_ii (by decide), b2_ok, add_ii]
    refine congrArg (fun z => M.ok (D.int z)) ?_
    omega
  obtain ⟨ps, ep, hlen, g, hb⟩ := nested_ok l 2 n (decide ((d1 : Int) = 1)) h8
  subst hlen
  have T := g.tb h3 h8
  obtain ⟨rows, p1, p2, p3, p4⟩ := peel10 T (fun L hL ne => rim_ex g hL ne) ps.length (List.range ps.length) (by simp) (by simpa using h8) List.nodup_range (fun x hx => List.mem_range.mp hx)
  rw [List.length_range] at p2
  refine ⟨tabD ps.length (ptT ps), nI (List.range ps.length), rows.map nI, ?_, ?_, p1, by rw [List.length_map]; omega, fun r hr => ?_⟩
  · unfold c_pre10
    rw [c1 (m := m_l_pool), hl, bindC_ok, e0, en, bindC_ok, e1, b2_ok (f := pyEq), eq_ii]
    rw [show b1 m_l_nested (mlist [.ok (intsD l), .ok (.int 2), .ok (.int (ps.length : Nat)), .ok (.bl (decide ((d1 : Int) = 1)))]) = .ok (ptsD ps) from by rw [c4 (m := m_l_nested)]; exact ep]
    rw [c1 (m := m_l_turns), turns_ok hb h8, bindC_ok, word_ok T, make_ok T, bindC_ok]
    rw [compF_map10 (i := b1 pyRange1 (mlist [.ok (.int (ps.length : Nat))])) (W := fun _ => .ok true) (fun k : Nat => D.int k) (f := fun _ => true) (l := List.range ps.length) (by rw [range_n (by omega), rangeD_map]) (by simp; omega) (fun _ _ => rfl), bindC_ok]
    have e00 : b1 mkLst (mlist []) = .ok (.lst []) := (if_pos (Nat.zero_le sizeLine) : (if ([] : List D).length ≤ sizeLine then M.ok (D.lst []) else M.stk) = _)
    rw [List.filter_eq_self.mpr (fun _ _ => rfl), e00, bindC_ok, range_n (by omega), bindC_ok]
    have e := p4 (rangeD 0 ps.length) [] (by rw [rangeD_map]; simp) (by simp; omega)
    unfold bd10 at e
    rw [e00] at e
    show ((forC _ (rangeD 0 ps.length) ((natsL (List.range ps.length), D.lst []) : D × D)).bind _) = _
    rw [e, ctl_nx, rows_nI]
    rfl
  · rw [b1_ok, fld_posts, natsL_nI]
    exact rg_nats (by omega)
  · obtain ⟨q, hq, rfl⟩ := List.mem_map.mp hr
    have := p3 q hq
    unfold nI
    rw [List.length_map]
    omega
end Mir
set_option maxHeartbeats 8000000
namespace Mir
open PySem PySem.Spec L2
open PyProof.Rows (envOfC)
def clsS (s : Stmt) (i : Nat) : Stmt := match s with
  | .ClassDef _ _ _ b _ _ _ _ _ _ _ => b.getD i (.Pass ⟨0, 0, 0, 0⟩)
  | _ => .Pass ⟨0, 0, 0, 0⟩
def topS (i : Nat) : Stmt := PySem.Challenge.pw_movedposts_k10_rims.main.body.getD i (.Pass ⟨0, 0, 0, 0⟩)
abbrev s_position : Stmt := topS 10
theorem sc_position : FnScope ["a", "b", "c"] ["a", "b", "c"] (defScope s_position) := ⟨rfl, rfl, rfl, by decide +kernel, rfl, by decide +kernel, by decide +kernel⟩
theorem ok_position {G : GG} {f : Addr} {fd : FuncData} (Fn : Fun G.K "position" "position" s_position f fd) : FnOk G.P G.w G.K G.mg G.base (L2.CX G.P G.w) 1 f fd ["a", "b", "c"] (spM G m_position) := by
  refine fn_ok [true, true, true] _ Fn sc_position (by decide +kernel) rfl ar3_len (fun cdv A outer s H E hr ds hl => ?_)
  obtain ⟨p_a, p_b, p_c, rfl⟩ := len3 hl
  refine ⟨c_position p_a p_b p_c, rfl, ?_⟩
  unfold c_position
  refine bm_lit [.val p_a, .val p_b, .val p_c] rfl ?_
  exact bm_ret (he := em_add (em_add (em_div (em_mul (em_mul (em_var 2 rfl rfl rfl) (em_sub (em_var 2 rfl rfl rfl) em_int)) (em_sub (em_var 2 rfl rfl rfl) em_int)) em_int) (em_div (em_mul (em_var 1 rfl rfl rfl) (em_sub (em_var 1 rfl rfl rfl) em_int)) em_int)) (em_var 0 rfl rfl rfl)) .nil
abbrev s_turn_of : Stmt := topS 11
theorem sc_turn_of : FnScope ["letters", "a", "b", "c", "sign", "letter"] ["letters", "a", "b", "c"] (defScope s_turn_of) := ⟨rfl, rfl, rfl, by decide +kernel, rfl, by decide +kernel, by decide +kernel⟩
theorem ok_turn_of {G : GG} {f : Addr} {fd : FuncData} (Fn : Fun G.K "turn_of" "turn_of" s_turn_of f fd) (k_position : Kn G 1 "position" m_position) : FnOk G.P G.w G.K G.mg G.base (L2.CX G.P G.w) 2 f fd ["letters", "a", "b", "c"] (spM G m_turn_of) := by
  refine fn_ok [true, true, true, true, true, true] _ Fn sc_turn_of (by decide +kernel) rfl ar4_len (fun cdv A outer s H E hr ds hl => ?_)
  obtain ⟨p_letters, p_a, p_b, p_c, rfl⟩ := len4 hl
  refine ⟨c_turn_of p_letters p_a p_b p_c, rfl, ?_⟩
  unfold c_turn_of
  refine bm_lit [.val p_letters, .val p_a, .val p_b, .val p_c, .unk, .unk] rfl ?_
  refine bm_asg 4 (gm_set 4 rfl rfl em_int) .nil fun v1_sign => ?_
  refine bm_lit [.val p_letters, .val p_a, .val p_b, .val p_c, .val v1_sign, .unk] rfl ?_
  refine bm_if (fj := (fun (v2_j : D × D × D) => [.val p_letters, .val v2_j.1, .val v2_j.2.1, .val p_c, .val v2_j.2.2, .unk])) (tm_cmp ok_gt rm_gt (em_var 1 rfl rfl rfl) (em_var 2 rfl rfl rfl) (nomark _)) .nil ?_ ?_ (fun v2_j => ?_)
  · skip
    refine bm_lit [.val p_letters, .val p_a, .val p_b, .val p_c, .val v1_sign, .unk] rfl ?_
    refine bm_par3 1 2 4 (am_cons (em_var 2 rfl rfl rfl) (am_cons (em_var 1 rfl rfl rfl) (am_cons (em_neg (em_var 4 rfl rfl rfl)) am_nil))) .nil (fun v3_a v4_b v5_sign => ?_) rfl rfl rfl rfl (by decide) (by decide) (by decide) (by rfl) (by rfl) (by rfl) (by intro Y hY; cases hY; rfl)
    exact bm_nil (s := (v3_a, v4_b, v5_sign)) (.same (.same (.same (.same (.same (.unk .nil))))))
  · skip
    exact bm_nil (s := (p_a, p_b, v1_sign)) (.same (.same (.same (.same (.same (.unk .nil))))))
  refine bm_lit [.val p_letters, .val v2_j.1, .val v2_j.2.1, .val p_c, .val v2_j.2.2, .unk] rfl ?_
  refine bm_if (fj := (fun (v7_j : D × D × D) => [.val p_letters, .val v2_j.1, .val v7_j.1, .val v7_j.2.1, .val v7_j.2.2, .unk])) (tm_cmp ok_gt rm_gt (em_var 2 rfl rfl rfl) (em_var 3 rfl rfl rfl) (nomark _)) .nil ?_ ?_ (fun v7_j => ?_)
  · skip
    refine bm_lit [.val p_letters, .val v2_j.1, .val v2_j.2.1, .val p_c, .val v2_j.2.2, .unk] rfl ?_
    refine bm_par3 2 3 4 (am_cons (em_var 3 rfl rfl rfl) (am_cons (em_var 2 rfl rfl rfl) (am_cons (em_neg (em_var 4 rfl rfl rfl)) am_nil))) .nil (fun v8_b v9_c v10_sign => ?_) rfl rfl rfl rfl (by decide) (by decide) (by decide) (by rfl) (by rfl) (by rfl) (by intro Y hY; cases hY; rfl)
    exact bm_nil (s := (v8_b, v9_c, v10_sign)) (.same (.same (.same (.same (.same (.unk .nil))))))
  · skip
    exact bm_nil (s := (v2_j.2.1, p_c, v2_j.2.2)) (.same (.same (.same (.same (.same (.unk .nil))))))
  refine bm_lit [.val p_letters, .val v2_j.1, .val v7_j.1, .val v7_j.2.1, .val v7_j.2.2, .unk] rfl ?_
  refine bm_if (fj := (fun (v12_j : D × D × D) => [.val p_letters, .val v12_j.1, .val v12_j.2.1, .val v7_j.2.1, .val v12_j.2.2, .unk])) (tm_cmp ok_gt rm_gt (em_var 1 rfl rfl rfl) (em_var 2 rfl rfl rfl) (nomark _)) .nil ?_ ?_ (fun v12_j => ?_)
  · skip
    refine bm_lit [.val p_letters, .val v2_j.1, .val v7_j.1, .val v7_j.2.1, .val v7_j.2.2, .unk] rfl ?_
    refine bm_par3 1 2 4 (am_cons (em_var 2 rfl rfl rfl) (am_cons (em_var 1 rfl rfl rfl) (am_cons (em_neg (em_var 4 rfl rfl rfl)) am_nil))) .nil (fun v13_a v14_b v15_sign => ?_) rfl rfl rfl rfl (by decide) (by decide) (by decide) (by rfl) (by rfl) (by rfl) (by intro Y hY; cases hY; rfl)
    exact bm_nil (s := (v13_a, v14_b, v15_sign)) (.same (.same (.same (.same (.same (.unk .nil))))))
  · skip
    exact bm_nil (s := (v2_j.1, v7_j.1, v7_j.2.2)) (.same (.same (.same (.same (.same (.unk .nil))))))
  refine bm_lit [.val p_letters, .val v12_j.1, .val v12_j.2.1, .val v7_j.2.1, .val v12_j.2.2, .unk] rfl ?_
  refine bm_asg 5 (gm_set 5 rfl rfl (em_ix (em_var 0 rfl rfl rfl) (em_call k_position rfl (by rfl) (am_cons (em_var 1 rfl rfl rfl) (am_cons (em_var 2 rfl rfl rfl) (am_cons (em_var 3 rfl rfl rfl) am_nil)))) (fun _ _ => rfl))) .nil fun v17_letter => ?_
  refine bm_lit [.val p_letters, .val v12_j.1, .val v12_j.2.1, .val v7_j.2.1, .val v12_j.2.2, .val v17_letter] rfl ?_
  refine bm_ifl (tm_cmp ok_eq rm_eq (em_var 5 rfl rfl rfl) em_str (nomark _)) .nil ?_ ?_ ?_
  · skip
    refine bm_lit [.val p_letters, .val v12_j.1, .val v12_j.2.1, .val v7_j.2.1, .val v12_j.2.2, .val v17_letter] rfl ?_
    exact bm_ret (he := em_int) .nil
  · repeat (first | exact noNx_retO | exact noNx_ret | exact noNx_exn | exact noNx_stk | exact noNx_exnF | exact noNx_exnF2 | refine noNx_bindC (fun _ => ?_) | refine noNx_bind (fun _ => ?_) | refine noNx_ite ?_ ?_ | (dsimp only))
  refine bm_lit [.val p_letters, .val v12_j.1, .val v12_j.2.1, .val v7_j.2.1, .val v12_j.2.2, .val v17_letter] rfl ?_
  exact bm_ret (he := em_if (tm_cmp ok_eq rm_eq (em_var 5 rfl rfl rfl) em_str (nomark _)) (em_var 4 rfl rfl rfl) (em_neg (em_var 4 rfl rfl rfl))) .nil
abbrev s_is_inside : Stmt := topS 17
theorem sc_is_inside : FnScope ["letters", "p", "a", "b", "c"] ["letters", "p", "a", "b", "c"] (defScope s_is_inside) := ⟨rfl, rfl, rfl, by decide +kernel, rfl, by decide +kernel, by decide +kernel⟩
theorem ok_is_inside {G : GG} {f : Addr} {fd : FuncData} (Fn : Fun G.K "is_inside" "is_inside" s_is_inside f fd) (k_turn_of : Kn G 2 "turn_of" m_turn_of) : FnOk G.P G.w G.K G.mg G.base (L2.CX G.P G.w) 3 f fd ["letters", "p", "a", "b", "c"] (spM G m_is_inside) := by
  refine fn_ok [true, true, true, true, true] _ Fn sc_is_inside (by decide +kernel) rfl ar5_len (fun cdv A outer s H E hr ds hl => ?_)
  obtain ⟨p_letters, p_p, p_a, p_b, p_c, rfl⟩ := len5 hl
  refine ⟨c_is_inside p_letters p_p p_a p_b p_c, rfl, ?_⟩
  unfold c_is_inside
  refine bm_lit [.val p_letters, .val p_p, .val p_a, .val p_b, .val p_c] rfl ?_
  exact bm_ret (he := em_chain ok_eq rm_eq ok_eq rm_eq (em_call k_turn_of rfl (by rfl) (am_cons (em_var 0 rfl rfl rfl) (am_cons (em_var 1 rfl rfl rfl) (am_cons (em_var 2 rfl rfl rfl) (am_cons (em_var 3 rfl rfl rfl) am_nil))))) (em_call k_turn_of rfl (by rfl) (am_cons (em_var 0 rfl rfl rfl) (am_cons (em_var 1 rfl rfl rfl) (am_cons (em_var 3 rfl rfl rfl) (am_cons (em_var 4 rfl rfl rfl) am_nil))))) (em_call k_turn_of rfl (by rfl) (am_cons (em_var 0 rfl rfl rfl) (am_cons (em_var 1 rfl rfl rfl) (am_cons (em_var 4 rfl rfl rfl) (am_cons (em_var 2 rfl rfl rfl) am_nil))))) ) .nil
abbrev s_on_rim : Stmt := topS 18
theorem sc_on_rim : FnScope ["letters", "group", "p", "others", "post", "k", "a", "j", "b", "c"] ["letters", "group", "p"] (defScope s_on_rim) := ⟨rfl, rfl, rfl, by decide +kernel, rfl, by decide +kernel, by decide +kernel⟩
theorem ok_on_rim {G : GG} {f : Addr} {fd : FuncData} (Fn : Fun G.K "on_rim" "on_rim" s_on_rim f fd) (B : Bi G) (k_is_inside : Kn G 3 "is_inside" m_is_inside) : FnOk G.P G.w G.K G.mg G.base (L2.CX G.P G.w) 4 f fd ["letters", "group", "p"] (spM G m_on_rim) := by
  refine fn_ok [true, true, true, true, false, true, true, true, true, true] _ Fn sc_on_rim (by decide +kernel) rfl ar3_len (fun cdv A outer s H E hr ds hl => ?_)
  obtain ⟨p_letters, p_group, p_p, rfl⟩ := len3 hl
  refine ⟨c_on_rim p_letters p_group p_p, rfl, ?_⟩
  unfold c_on_rim
  refine bm_lit [.val p_letters, .val p_group, .val p_p, .unk, .unk, .unk, .unk, .unk, .unk, .unk] rfl ?_
  refine bm_asg 3 (gm_lc 3 rfl  (blkF_of ["letters", "group", "p", "others", "post", "k", "a", "j", "b", "c"] (defScope s_on_rim).names rfl rfl (by decide +kernel) : BlkF _ _ [("post", 4)] [false, false, true, false, true, false, false, false, false, false] [false, false, false, false, true, false, false, false, false, false] _) rfl (im_seq (em_var 1 rfl rfl rfl)) (tg_name 4 rfl rfl) (fun v2_post => .inl (⟨_, _, _, rfl, ifm_one (tm_cmp ok_ne rm_ne (em_var 4 rfl rfl rfl) (em_var 2 rfl rfl rfl) (nomark _)), em_var 4 rfl rfl rfl, rfl⟩)) rfl rfl rfl (by rfl)) .nil fun v1_others => ?_
  refine bm_lit [.val p_letters, .val p_group, .val p_p, .val v1_others, .unk, .unk, .unk, .unk, .unk, .unk] rfl ?_
  refine bm_for (T := Unit) (fj := (fun (v3_j : Unit) => [.val p_letters, .val p_group, .val p_p, .val v1_others, .unk, .unk, .unk, .unk, .unk, .unk])) (j0 := ()) (im_enum (by rfl) B.f_enumerate (em_var 3 rfl rfl rfl)) .nil (.same (.same (.same (.same (.unk (.unk (.unk (.unk (.unk (.unk .nil)))))))))) rfl (tg_tup 2 (tgs_cons (tg_name 5 rfl rfl) (tgs_cons (tg_name 6 rfl rfl) (tgs_nil))) rfl (tgc_len (tgc_len (tgn_len)))) (fun v4_t v3_j => ?_) (fun v3_j => ?_) rfl
  · skip
    refine (un2_cs v4_t).elim (fun h => ?_) (fun hz => .inr (hz _ _))
    obtain ⟨v5_k, v6_a, h⟩ := h
    rw [un2_at h, tgTup_at h]
    refine .inl ⟨_, rfl, ?_⟩
    refine bm_lit [.val p_letters, .val p_group, .val p_p, .val v1_others, .unk, .val v5_k, .val v6_a, .unk, .unk, .unk] rfl ?_
    refine bm_for (T := Unit) (fj := (fun (v7_j : Unit) => [.val p_letters, .val p_group, .val p_p, .val v1_others, .unk, .val v5_k, .val v6_a, .unk, .unk, .unk])) (j0 := ()) (im_enum (by rfl) B.f_enumerate (em_slice (em_var 3 rfl rfl rfl) om_none (om_some (em_var 5 rfl rfl rfl)))) .nil (.same (.same (.same (.same (.unk (.same (.same (.unk (.unk (.unk .nil)))))))))) rfl (tg_tup 2 (tgs_cons (tg_name 7 rfl rfl) (tgs_cons (tg_name 8 rfl rfl) (tgs_nil))) rfl (tgc_len (tgc_len (tgn_len)))) (fun v8_t v7_j => ?_) (fun v7_j => ?_) rfl
    · skip
      refine (un2_cs v8_t).elim (fun h => ?_) (fun hz => .inr (hz _ _))
      obtain ⟨v9_j, v10_b, h⟩ := h
      rw [un2_at h, tgTup_at h]
      refine .inl ⟨_, rfl, ?_⟩
      refine bm_lit [.val p_letters, .val p_group, .val p_p, .val v1_others, .unk, .val v5_k, .val v6_a, .val v9_j, .val v10_b, .unk] rfl ?_
      refine bm_for (T := Unit) (fj := (fun (v11_j : Unit) => [.val p_letters, .val p_group, .val p_p, .val v1_others, .unk, .val v5_k, .val v6_a, .val v9_j, .val v10_b, .unk])) (j0 := ()) (im_seq (em_slice (em_var 3 rfl rfl rfl) om_none (om_some (em_var 7 rfl rfl rfl)))) .nil (.same (.same (.same (.same (.unk (.same (.same (.same (.same (.unk .nil)))))))))) rfl (tg_name 9 rfl rfl) (fun v12_c v11_j => ?_) (fun v11_j => ?_) rfl
      · skip
        refine .inl ⟨_, rfl, ?_⟩
        refine bm_lit [.val p_letters, .val p_group, .val p_p, .val v1_others, .unk, .val v5_k, .val v6_a, .val v9_j, .val v10_b, .val v12_c] rfl ?_
        refine bm_ifl (tm_val (em_call k_is_inside rfl (by rfl) (am_cons (em_var 0 rfl rfl rfl) (am_cons (em_var 2 rfl rfl rfl) (am_cons (em_var 6 rfl rfl rfl) (am_cons (em_var 8 rfl rfl rfl) (am_cons (em_var 9 rfl rfl rfl) am_nil)))))) (fun _ _ _ => rfl)) .nil ?_ ?_ ?_
        · skip
          refine bm_lit [.val p_letters, .val p_group, .val p_p, .val v1_others, .unk, .val v5_k, .val v6_a, .val v9_j, .val v10_b, .val v12_c] rfl ?_
          exact bm_ret (he := em_bl) .nil
        · repeat (first | exact noNx_retO | exact noNx_ret | exact noNx_exn | exact noNx_stk | exact noNx_exnF | exact noNx_exnF2 | refine noNx_bindC (fun _ => ?_) | refine noNx_bind (fun _ => ?_) | refine noNx_ite ?_ ?_ | (dsimp only))
        exact bm_nil (s := ()) (.same (.same (.same (.same (.unk (.same (.same (.same (.same (.unk .nil))))))))))
      exact bm_nil (s := ()) (.same (.same (.same (.same (.unk (.same (.same (.unk (.unk (.unk .nil))))))))))
    exact bm_nil (s := ()) (.same (.same (.same (.same (.unk (.unk (.unk (.unk (.unk (.unk .nil))))))))))
  refine bm_lit [.val p_letters, .val p_group, .val p_p, .val v1_others, .unk, .unk, .unk, .unk, .unk, .unk] rfl ?_
  exact bm_ret (he := em_bl) .nil
abbrev s_l_draw : Stmt := topS 33
theorem sc_l_draw : FnScope ["_law_pool_here", "_law_k", "_law_many"] ["_law_pool_here", "_law_k", "_law_many"] (defScope s_l_draw) := ⟨rfl, rfl, rfl, by decide +kernel, rfl, by decide +kernel, by decide +kernel⟩
theorem ok_l_draw {G : GG} {f : Addr} {fd : FuncData} (Fn : Fun G.K "_law_draw" "_law_draw" s_l_draw f fd) (B : Bi G) : FnOk G.P G.w G.K G.mg G.base (L2.CX G.P G.w) 1 f fd ["_law_pool_here", "_law_k", "_law_many"] (spM G m_l_draw) := by
  refine fn_ok [true, true, true] _ Fn sc_l_draw (by decide +kernel) rfl ar3_len (fun cdv A outer s H E hr ds hl => ?_)
  obtain ⟨p_pool_here, p_k, p_many, rfl⟩ := len3 hl
  refine ⟨c_l_draw p_pool_here p_k p_many, rfl, ?_⟩
  unfold c_l_draw
  refine bm_lit [.val p_pool_here, .val p_k, .val p_many] rfl ?_
  refine bm_ifl (tm_cmp ok_lt rm_lt (em_var 1 rfl rfl rfl) (em_len (by rfl) B.f_len (am_cons (em_var 0 rfl rfl rfl) am_nil)) (nomark _)) .nil ?_ ?_ ?_
  · skip
    refine bm_lit [.val p_pool_here, .val p_k, .val p_many] rfl ?_
    exact bm_ret (he := em_mod (em_int_of (by rfl) B.f_int (am_cons (em_ix (em_var 0 rfl rfl rfl) (em_var 1 rfl rfl rfl) (fun _ _ => rfl)) am_nil)) (em_var 2 rfl rfl rfl)) .nil
  · repeat (first | exact noNx_retO | exact noNx_ret | exact noNx_exn | exact noNx_stk | exact noNx_exnF | exact noNx_exnF2 | refine noNx_bindC (fun _ => ?_) | refine noNx_bind (fun _ => ?_) | refine noNx_ite ?_ ?_ | (dsimp only))
  refine bm_lit [.val p_pool_here, .val p_k, .val p_many] rfl ?_
  exact bm_ret (he := em_int) .nil
abbrev s_l_letters : Stmt := topS 38
theorem sc_l_letters : FnScope ["_law_turns_here", "_law_posts", "_law_letters_here", "_law_c", "_law_b", "_law_a"] ["_law_turns_here", "_law_posts"] (defScope s_l_letters) := ⟨rfl, rfl, rfl, by decide +kernel, rfl, by decide +kernel, by decide +kernel⟩
theorem ok_l_letters {G : GG} {f : Addr} {fd : FuncData} (Fn : Fun G.K "_law_letters" "_law_letters" s_l_letters f fd) (B : Bi G) : FnOk G.P G.w G.K G.mg G.base (L2.CX G.P G.w) 1 f fd ["_law_turns_here", "_law_posts"] (spM G m_l_letters) := by
  refine fn_ok [true, true, true, true, true, true] _ Fn sc_l_letters (by decide +kernel) rfl ar2_len (fun cdv A outer s H E hr ds hl => ?_)
  obtain ⟨p_turns_here, p_posts, rfl⟩ := len2 hl
  refine ⟨c_l_letters p_turns_here p_posts, rfl, ?_⟩
  unfold c_l_letters
  refine bm_lit [.val p_turns_here, .val p_posts, .unk, .unk, .unk, .unk] rfl ?_
  refine bm_asg 2 (gm_set 2 rfl rfl em_str) .nil fun v1_letters_here => ?_
  refine bm_lit [.val p_turns_here, .val p_posts, .val v1_letters_here, .unk, .unk, .unk] rfl ?_
  refine bm_for (T := Unit) (fj := (fun (v2_j : D) => [.val p_turns_here, .val p_posts, .val v2_j, .unk, .unk, .unk])) (j0 := v1_letters_here) (im_range1 (by rfl) B.f_range (am_cons (em_var 1 rfl rfl rfl) am_nil)) .nil (.same (.same (.same (.unk (.unk (.unk .nil)))))) rfl (tg_name 3 rfl rfl) (fun v3_c v2_j => ?_) (fun v2_j => ?_) rfl
  · skip
    refine .inl ⟨_, rfl, ?_⟩
    refine bm_lit [.val p_turns_here, .val p_posts, .val v2_j, .val v3_c, .unk, .unk] rfl ?_
    refine bm_for (T := Unit) (fj := (fun (v4_j : D) => [.val p_turns_here, .val p_posts, .val v4_j, .val v3_c, .unk, .unk])) (j0 := v2_j) (im_range1 (by rfl) B.f_range (am_cons (em_var 3 rfl rfl rfl) am_nil)) .nil (.same (.same (.same (.same (.unk (.unk .nil)))))) rfl (tg_name 4 rfl rfl) (fun v5_b v4_j => ?_) (fun v4_j => ?_) rfl
    · skip
      refine .inl ⟨_, rfl, ?_⟩
      refine bm_lit [.val p_turns_here, .val p_posts, .val v4_j, .val v3_c, .val v5_b, .unk] rfl ?_
      refine bm_for (T := Unit) (fj := (fun (v6_j : D) => [.val p_turns_here, .val p_posts, .val v6_j, .val v3_c, .val v5_b, .unk])) (j0 := v4_j) (im_range1 (by rfl) B.f_range (am_cons (em_var 4 rfl rfl rfl) am_nil)) .nil (.same (.same (.same (.same (.same (.unk .nil)))))) rfl (tg_name 5 rfl rfl) (fun v7_a v6_j => ?_) (fun v6_j => ?_) rfl
      · skip
        refine .inl ⟨_, rfl, ?_⟩
        refine bm_lit [.val p_turns_here, .val p_posts, .val v6_j, .val v3_c, .val v5_b, .val v7_a] rfl ?_
        refine bm_asg 2 (gm_set 2 rfl rfl (em_add (em_var 2 rfl rfl rfl) (em_ix (em_lst (am_cons em_str (am_cons em_str am_nil))) (em_int_of (by rfl) B.f_int (am_cons (em_cmp ok_eq rm_eq (em_ix (em_var 0 rfl rfl rfl) (em_tup (am_cons (em_var 5 rfl rfl rfl) (am_cons (em_var 4 rfl rfl rfl) (am_cons (em_var 3 rfl rfl rfl) am_nil)))) (fun _ _ => rfl)) em_int (nomark _)) am_nil)) (fun _ _ => rfl)))) .nil fun v8_letters_here => ?_
        exact bm_nil (s := v8_letters_here) (.same (.same (.same (.same (.same (.unk .nil))))))
      exact bm_nil (s := v6_j) (.same (.same (.same (.same (.unk (.unk .nil))))))
    exact bm_nil (s := v4_j) (.same (.same (.same (.unk (.unk (.unk .nil))))))
  refine bm_lit [.val p_turns_here, .val p_posts, .val v2_j, .unk, .unk, .unk] rfl ?_
  exact bm_ret (he := em_var 2 rfl rfl rfl) .nil
abbrev s_l_cross : Stmt := topS 34
theorem sc_l_cross : FnScope ["_law_p", "_law_q", "_law_r"] ["_law_p", "_law_q", "_law_r"] (defScope s_l_cross) := ⟨rfl, rfl, rfl, by decide +kernel, rfl, by decide +kernel, by decide +kernel⟩
theorem ok_l_cross {G : GG} {f : Addr} {fd : FuncData} (Fn : Fun G.K "_law_cross" "_law_cross" s_l_cross f fd) : FnOk G.P G.w G.K G.mg G.base (L2.CX G.P G.w) 1 f fd ["_law_p", "_law_q", "_law_r"] (spM G m_l_cross) := by
  refine fn_ok [true, true, true] _ Fn sc_l_cross (by decide +kernel) rfl ar3_len (fun cdv A outer s H E hr ds hl => ?_)
  obtain ⟨p_p, p_q, p_r, rfl⟩ := len3 hl
  refine ⟨c_l_cross p_p p_q p_r, rfl, ?_⟩
  unfold c_l_cross
  refine bm_lit [.val p_p, .val p_q, .val p_r] rfl ?_
  exact bm_ret (he := em_sub (em_mul (em_sub (em_ix (em_var 1 rfl rfl rfl) em_int (fun _ _ => rfl)) (em_ix (em_var 0 rfl rfl rfl) em_int (fun _ _ => rfl))) (em_sub (em_ix (em_var 2 rfl rfl rfl) em_int (fun _ _ => rfl)) (em_ix (em_var 0 rfl rfl rfl) em_int (fun _ _ => rfl)))) (em_mul (em_sub (em_ix (em_var 1 rfl rfl rfl) em_int (fun _ _ => rfl)) (em_ix (em_var 0 rfl rfl rfl) em_int (fun _ _ => rfl))) (em_sub (em_ix (em_var 2 rfl rfl rfl) em_int (fun _ _ => rfl)) (em_ix (em_var 0 rfl rfl rfl) em_int (fun _ _ => rfl))))) .nil
abbrev s_l_free : Stmt := topS 35
theorem sc_l_free : FnScope ["_law_places", "_law_spot", "_law_k", "_law_j"] ["_law_places", "_law_spot"] (defScope s_l_free) := ⟨rfl, rfl, rfl, by decide +kernel, rfl, by decide +kernel, by decide +kernel⟩
theorem ok_l_free {G : GG} {f : Addr} {fd : FuncData} (Fn : Fun G.K "_law_free" "_law_free" s_l_free f fd) (B : Bi G) (k_l_cross : Kn G 1 "_law_cross" m_l_cross) : FnOk G.P G.w G.K G.mg G.base (L2.CX G.P G.w) 2 f fd ["_law_places", "_law_spot"] (spM G m_l_free) := by
  refine fn_ok [true, true, true, true] _ Fn sc_l_free (by decide +kernel) rfl ar2_len (fun cdv A outer s H E hr ds hl => ?_)
  obtain ⟨p_places, p_spot, rfl⟩ := len2 hl
  refine ⟨c_l_free p_places p_spot, rfl, ?_⟩
  unfold c_l_free
  refine bm_lit [.val p_places, .val p_spot, .unk, .unk] rfl ?_
  refine bm_for (T := Unit) (fj := (fun (v1_j : Unit) => [.val p_places, .val p_spot, .unk, .unk])) (j0 := ()) (im_range1 (by rfl) B.f_range (am_cons (em_len (by rfl) B.f_len (am_cons (em_var 0 rfl rfl rfl) am_nil)) am_nil)) .nil (.same (.same (.unk (.unk .nil)))) rfl (tg_name 2 rfl rfl) (fun v2_k v1_j => ?_) (fun v1_j => ?_) rfl
  · skip
    refine .inl ⟨_, rfl, ?_⟩
    refine bm_lit [.val p_places, .val p_spot, .val v2_k, .unk] rfl ?_
    refine bm_ifl (tm_cmp ok_eq rm_eq (em_ix (em_var 0 rfl rfl rfl) (em_var 2 rfl rfl rfl) (fun _ _ => rfl)) (em_var 1 rfl rfl rfl) (nomark _)) .nil ?_ ?_ ?_
    · skip
      refine bm_lit [.val p_places, .val p_spot, .val v2_k, .unk] rfl ?_
      exact bm_ret (he := em_bl) .nil
    · repeat (first | exact noNx_retO | exact noNx_ret | exact noNx_exn | exact noNx_stk | exact noNx_exnF | exact noNx_exnF2 | refine noNx_bindC (fun _ => ?_) | refine noNx_bind (fun _ => ?_) | refine noNx_ite ?_ ?_ | (dsimp only))
    refine bm_lit [.val p_places, .val p_spot, .val v2_k, .unk] rfl ?_
    refine bm_for (T := Unit) (fj := (fun (v3_j : Unit) => [.val p_places, .val p_spot, .val v2_k, .unk])) (j0 := ()) (im_range1 (by rfl) B.f_range (am_cons (em_var 2 rfl rfl rfl) am_nil)) .nil (.same (.same (.same (.unk .nil)))) rfl (tg_name 3 rfl rfl) (fun v4_j v3_j => ?_) (fun v3_j => ?_) rfl
    · skip
      refine .inl ⟨_, rfl, ?_⟩
      refine bm_lit [.val p_places, .val p_spot, .val v2_k, .val v4_j] rfl ?_
      refine bm_ifl (tm_cmp ok_eq rm_eq (em_call k_l_cross rfl (by rfl) (am_cons (em_ix (em_var 0 rfl rfl rfl) (em_var 3 rfl rfl rfl) (fun _ _ => rfl)) (am_cons (em_ix (em_var 0 rfl rfl rfl) (em_var 2 rfl rfl rfl) (fun _ _ => rfl)) (am_cons (em_var 1 rfl rfl rfl) am_nil)))) em_int (nomark _)) .nil ?_ ?_ ?_
      · skip
        refine bm_lit [.val p_places, .val p_spot, .val v2_k, .val v4_j] rfl ?_
        exact bm_ret (he := em_bl) .nil
      · repeat (first | exact noNx_retO | exact noNx_ret | exact noNx_exn | exact noNx_stk | exact noNx_exnF | exact noNx_exnF2 | refine noNx_bindC (fun _ => ?_) | refine noNx_bind (fun _ => ?_) | refine noNx_ite ?_ ?_ | (dsimp only))
      exact bm_nil (s := ()) (.same (.same (.same (.unk .nil))))
    exact bm_nil (s := ()) (.same (.same (.unk (.unk .nil))))
  refine bm_lit [.val p_places, .val p_spot, .unk, .unk] rfl ?_
  exact bm_ret (he := em_bl) .nil
abbrev s_l_nested : Stmt := topS 36
theorem sc_l_nested : FnScope ["_law_pool_here", "_law_at", "_law_posts", "_law_shrink", "_law_places", "_law_k", "_law_wide", "_law_x", "_law_y", "_law_j"] ["_law_pool_here", "_law_at", "_law_posts", "_law_shrink"] (defScope s_l_nested) := ⟨rfl, rfl, rfl, by decide +kernel, rfl, by decide +kernel, by decide +kernel⟩
theorem ok_l_nested {G : GG} {f : Addr} {fd : FuncData} (Fn : Fun G.K "_law_nested" "_law_nested" s_l_nested f fd) (B : Bi G) (k_l_draw : Kn G 2 "_law_draw" m_l_draw) (k_l_free : Kn G 2 "_law_free" m_l_free) : FnOk G.P G.w G.K G.mg G.base (L2.CX G.P G.w) 3 f fd ["_law_pool_here", "_law_at", "_law_posts", "_law_shrink"] (spM G m_l_nested) := by
  refine fn_ok [true, true, true, true, true, true, true, true, true, true] _ Fn sc_l_nested (by decide +kernel) rfl ar4_len (fun cdv A outer s H E hr ds hl => ?_)
  obtain ⟨p_pool_here, p_at, p_posts, p_shrink, rfl⟩ := len4 hl
  refine ⟨c_l_nested p_pool_here p_at p_posts p_shrink, rfl, ?_⟩
  unfold c_l_nested
  refine bm_lit [.val p_pool_here, .val p_at, .val p_posts, .val p_shrink, .unk, .unk, .unk, .unk, .unk, .unk] rfl ?_
  refine bm_asgO 4 (gf_set 4 rfl rfl (fe_lst (am_nil))) .nil fun v1_places => ?_
  refine bm_lit [.val p_pool_here, .val p_at, .val p_posts, .val p_shrink, .own v1_places, .unk, .unk, .unk, .unk, .unk] rfl ?_
  refine bm_for (T := Unit) (fj := (fun (v2_j : D) => [.val p_pool_here, .val p_at, .val p_posts, .val p_shrink, .own v2_j, .unk, .unk, .unk, .unk, .unk])) (j0 := v1_places) (im_range1 (by rfl) B.f_range (am_cons (em_var 2 rfl rfl rfl) am_nil)) .nil (.same (.same (.same (.same (.same (.unk (.unk (.unk (.unk (.unk .nil)))))))))) rfl (tg_name 5 rfl rfl) (fun v3_k v2_j => ?_) (fun v2_j => ?_) rfl
  · skip
    refine .inl ⟨_, rfl, ?_⟩
    refine bm_lit [.val p_pool_here, .val p_at, .val p_posts, .val p_shrink, .own v2_j, .val v3_k, .unk, .unk, .unk, .unk] rfl ?_
    refine bm_asg 6 (gm_set 6 rfl rfl em_int) .nil fun v4_wide => ?_
    refine bm_lit [.val p_pool_here, .val p_at, .val p_posts, .val p_shrink, .own v2_j, .val v3_k, .val v4_wide, .unk, .unk, .unk] rfl ?_
    refine bm_if (fj := (fun (v5_j : D) => [.val p_pool_here, .val p_at, .val p_posts, .val p_shrink, .own v2_j, .val v3_k, .val v5_j, .unk, .unk, .unk])) (tm_w (wm_and (tm_val (em_var 3 rfl rfl rfl) (fun _ _ _ => rfl)) (wm_and1 (tm_cmp ok_ge rm_ge (em_var 5 rfl rfl rfl) em_int (nomark _))))) .nil ?_ ?_ (fun v5_j => ?_)
    · skip
      refine bm_lit [.val p_pool_here, .val p_at, .val p_posts, .val p_shrink, .own v2_j, .val v3_k, .val v4_wide, .unk, .unk, .unk] rfl ?_
      refine bm_asg 6 (gm_set 6 rfl rfl (em_ix (em_lst (am_cons em_int (am_cons em_int am_nil))) (em_int_of (by rfl) B.f_int (am_cons (em_cmp ok_ge rm_ge (em_var 5 rfl rfl rfl) em_int (nomark _)) am_nil)) (fun _ _ => rfl))) .nil fun v6_wide => ?_
      exact bm_nil (s := v6_wide) (.same (.same (.same (.same (.same (.same (.same (.unk (.unk (.unk .nil))))))))))
    · skip
      exact bm_nil (s := v4_wide) (.same (.same (.same (.same (.same (.same (.same (.unk (.unk (.unk .nil))))))))))
    refine bm_lit [.val p_pool_here, .val p_at, .val p_posts, .val p_shrink, .own v2_j, .val v3_k, .val v5_j, .unk, .unk, .unk] rfl ?_
    refine bm_asg 7 (gm_set 7 rfl rfl (em_add (em_call k_l_draw rfl (by rfl) (am_cons (em_var 0 rfl rfl rfl) (am_cons (em_add (em_var 1 rfl rfl rfl) (em_mul em_int (em_var 5 rfl rfl rfl))) (am_cons (em_var 6 rfl rfl rfl) am_nil)))) (em_div (em_sub em_int (em_var 6 rfl rfl rfl)) em_int))) .nil fun v7_x => ?_
    refine bm_lit [.val p_pool_here, .val p_at, .val p_posts, .val p_shrink, .own v2_j, .val v3_k, .val v5_j, .val v7_x, .unk, .unk] rfl ?_
    refine bm_asg 8 (gm_set 8 rfl rfl (em_add (em_call k_l_draw rfl (by rfl) (am_cons (em_var 0 rfl rfl rfl) (am_cons (em_add (em_add (em_var 1 rfl rfl rfl) (em_mul em_int (em_var 5 rfl rfl rfl))) em_int) (am_cons (em_var 6 rfl rfl rfl) am_nil)))) (em_div (em_sub em_int (em_var 6 rfl rfl rfl)) em_int))) .nil fun v8_y => ?_
    refine bm_lit [.val p_pool_here, .val p_at, .val p_posts, .val p_shrink, .own v2_j, .val v3_k, .val v5_j, .val v7_x, .val v8_y, .unk] rfl ?_
    refine bm_for (T := Unit) (fj := (fun (v9_j : D) => [.val p_pool_here, .val p_at, .val p_posts, .val p_shrink, .own v9_j, .val v3_k, .val v5_j, .val v7_x, .val v8_y, .unk])) (j0 := v2_j) (im_range1 (by rfl) B.f_range (am_cons em_int am_nil)) .nil (.same (.same (.same (.same (.same (.same (.same (.same (.same (.unk .nil)))))))))) rfl (tg_name 9 rfl rfl) (fun v10_j v9_j => ?_) (fun v9_j => ?_) rfl
    · skip
      refine .inl ⟨_, rfl, ?_⟩
      refine bm_lit [.val p_pool_here, .val p_at, .val p_posts, .val p_shrink, .own v9_j, .val v3_k, .val v5_j, .val v7_x, .val v8_y, .val v10_j] rfl ?_
      refine bm_if (fj := (fun (v11_j : D) => [.val p_pool_here, .val p_at, .val p_posts, .val p_shrink, .own v11_j, .val v3_k, .val v5_j, .val v7_x, .val v8_y, .val v10_j])) (tm_look (tm_w (wm_and (tm_cmp ok_eq rm_eq (em_len (by rfl) B.f_len (am_cons (em_var 4 rfl rfl rfl) am_nil)) (em_var 5 rfl rfl rfl) (nomark _)) (wm_and1 (tm_val (em_call k_l_free rfl (by rfl) (am_cons (em_var 4 rfl rfl rfl) (am_cons (em_tup (am_cons (em_add (em_var 7 rfl rfl rfl) (em_var 9 rfl rfl rfl)) (am_cons (em_add (em_var 8 rfl rfl rfl) (em_mul (em_var 9 rfl rfl rfl) (em_var 9 rfl rfl rfl))) am_nil))) am_nil))) (fun _ _ _ => rfl)))))) .nil ?_ ?_ (fun v11_j => ?_)
      · skip
        refine bm_lit [.val p_pool_here, .val p_at, .val p_posts, .val p_shrink, .own v9_j, .val v3_k, .val v5_j, .val v7_x, .val v8_y, .val v10_j] rfl ?_
        refine bm_app 4 rfl (em_tup (am_cons (em_add (em_var 7 rfl rfl rfl) (em_var 9 rfl rfl rfl)) (am_cons (em_add (em_var 8 rfl rfl rfl) (em_mul (em_var 9 rfl rfl rfl) (em_var 9 rfl rfl rfl))) am_nil))) .nil (fun v12_places => ?_) (fun t q Y hY => pe_bm PySem.F.plainAttrs_list PySem.F.slot_list_append PySem.F.type_list_append mt_append (pvar 4 rfl rfl Y hY) (pa_cons (q Y hY) pa_nil))
        exact bm_nil (s := v12_places) (.same (.same (.same (.same (.same (.same (.same (.same (.same (.same .nil))))))))))
      · skip
        exact bm_nil (s := v9_j) (.same (.same (.same (.same (.same (.same (.same (.same (.same (.same .nil))))))))))
      exact bm_nil (s := v11_j) (.same (.same (.same (.same (.same (.same (.same (.same (.same (.unk .nil))))))))))
    exact bm_nil (s := v9_j) (.same (.same (.same (.same (.same (.unk (.unk (.unk (.unk (.unk .nil))))))))))
  refine bm_lit [.val p_pool_here, .val p_at, .val p_posts, .val p_shrink, .own v2_j, .unk, .unk, .unk, .unk, .unk] rfl ?_
  refine bm_give 4 rfl ?_
  exact bm_ret (he := em_var 4 rfl rfl rfl) .nil
abbrev s_l_pool : Stmt := topS 32
theorem sc_l_pool : FnScope ["_law_script", "_law_pool_here", "_law_cell", "_law_rest", "_law_k", "_law_mixed"] ["_law_script"] (defScope s_l_pool) := ⟨rfl, rfl, rfl, by decide +kernel, rfl, by decide +kernel, by decide +kernel⟩
theorem ok_l_pool {G : GG} {f : Addr} {fd : FuncData} (Fn : Fun G.K "_law_pool" "_law_pool" s_l_pool f fd) (B : Bi G) : FnOk G.P G.w G.K G.mg G.base (L2.CX G.P G.w) 1 f fd ["_law_script"] (spM G m_l_pool) := by
  refine fn_ok [true, true, true, true, true, true] _ Fn sc_l_pool (by decide +kernel) rfl ar1_len (fun cdv A outer s H E hr ds hl => ?_)
  obtain ⟨p_script, rfl⟩ := len1 hl
  refine ⟨c_l_pool p_script, rfl, ?_⟩
  unfold c_l_pool
  refine bm_lit [.val p_script, .unk, .unk, .unk, .unk, .unk] rfl ?_
  refine bm_asgO 1 (gf_set 1 rfl rfl (fe_lst (am_nil))) .nil fun v1_pool_here => ?_
  refine bm_lit [.val p_script, .own v1_pool_here, .unk, .unk, .unk, .unk] rfl ?_
  refine bm_for (T := Unit) (fj := (fun (v2_j : D) => [.val p_script, .own v2_j, .unk, .unk, .unk, .unk])) (j0 := v1_pool_here) (im_seq (em_var 0 rfl rfl rfl)) .nil (.same (.same (.unk (.unk (.unk (.unk .nil)))))) rfl (tg_name 2 rfl rfl) (fun v3_cell v2_j => ?_) (fun v2_j => ?_) rfl
  · skip
    refine .inl ⟨_, rfl, ?_⟩
    refine bm_lit [.val p_script, .own v2_j, .val v3_cell, .unk, .unk, .unk] rfl ?_
    refine bm_asg 3 (gm_set 3 rfl rfl (em_var 2 rfl rfl rfl)) .nil fun v4_rest => ?_
    refine bm_lit [.val p_script, .own v2_j, .val v3_cell, .val v4_rest, .unk, .unk] rfl ?_
    refine bm_if (fj := (fun (v5_j : D) => [.val p_script, .own v5_j, .val v3_cell, .unk, .unk, .unk])) (tm_cmp ok_ge rm_ge (em_var 2 rfl rfl rfl) (em_pow em_int em_int) (nomark _)) .nil ?_ ?_ (fun v5_j => ?_)
    · skip
      refine bm_lit [.val p_script, .own v2_j, .val v3_cell, .val v4_rest, .unk, .unk] rfl ?_
      refine bm_for (T := Unit) (fj := (fun (v6_j : D × D) => [.val p_script, .own v6_j.1, .val v3_cell, .val v6_j.2, .unk, .unk])) (j0 := (v2_j, v4_rest)) (im_range1 (by rfl) B.f_range (am_cons em_int am_nil)) .nil (.same (.same (.same (.same (.unk (.unk .nil)))))) rfl (tg_name 4 rfl rfl) (fun v7_k v6_j => ?_) (fun v6_j => ?_) rfl
      · skip
        refine .inl ⟨_, rfl, ?_⟩
        refine bm_lit [.val p_script, .own v6_j.1, .val v3_cell, .val v6_j.2, .val v7_k, .unk] rfl ?_
        refine bm_if (fj := (fun (v8_j : D × D) => [.val p_script, .own v8_j.1, .val v3_cell, .val v8_j.2, .val v7_k, .unk])) (tm_cmp ok_gt rm_gt (em_var 3 rfl rfl rfl) em_int (nomark _)) .nil ?_ ?_ (fun v8_j => ?_)
        · skip
          refine bm_lit [.val p_script, .own v6_j.1, .val v3_cell, .val v6_j.2, .val v7_k, .unk] rfl ?_
          refine bm_app 1 rfl (em_mod (em_int_of (by rfl) B.f_int (am_cons (em_var 3 rfl rfl rfl) am_nil)) em_int) .nil (fun v9_pool_here => ?_) (fun t q Y hY => pe_bm PySem.F.plainAttrs_list PySem.F.slot_list_append PySem.F.type_list_append mt_append (pvar 1 rfl rfl Y hY) (pa_cons (q Y hY) pa_nil))
          refine bm_lit [.val p_script, .own v9_pool_here, .val v3_cell, .val v6_j.2, .val v7_k, .unk] rfl ?_
          refine bm_asg 3 (gm_set 3 rfl rfl (em_div (em_var 3 rfl rfl rfl) em_int)) .nil fun v10_rest => ?_
          exact bm_nil (s := (v9_pool_here, v10_rest)) (.same (.same (.same (.same (.same (.unk .nil))))))
        · skip
          exact bm_nil (s := (v6_j.1, v6_j.2)) (.same (.same (.same (.same (.same (.unk .nil))))))
        exact bm_nil (s := (v8_j.1, v8_j.2)) (.same (.same (.same (.same (.unk (.unk .nil))))))
      exact bm_nil (s := v6_j.1) (.same (.same (.same (.unk (.unk (.unk .nil))))))
    · skip
      refine bm_lit [.val p_script, .own v2_j, .val v3_cell, .val v4_rest, .unk, .unk] rfl ?_
      refine bm_for (T := Unit) (fj := (fun (v12_j : D) => [.val p_script, .own v12_j, .val v3_cell, .val v4_rest, .unk, .unk])) (j0 := v2_j) (im_range1 (by rfl) B.f_range (am_cons em_int am_nil)) .nil (.same (.same (.same (.same (.unk (.unk .nil)))))) rfl (tg_name 4 rfl rfl) (fun v13_k v12_j => ?_) (fun v12_j => ?_) rfl
      · skip
        refine .inl ⟨_, rfl, ?_⟩
        refine bm_lit [.val p_script, .own v12_j, .val v3_cell, .val v4_rest, .val v13_k, .unk] rfl ?_
        refine bm_asg 5 (gm_set 5 rfl rfl (em_mod (em_int_of (by rfl) B.f_int (am_cons (em_add (em_add (em_mul (em_var 2 rfl rfl rfl) em_int) (em_mul (em_var 4 rfl rfl rfl) em_int)) em_int) am_nil)) em_int)) .nil fun v14_mixed => ?_
        refine bm_lit [.val p_script, .own v12_j, .val v3_cell, .val v4_rest, .val v13_k, .val v14_mixed] rfl ?_
        refine bm_app 1 rfl (em_div (em_mod (em_int_of (by rfl) B.f_int (am_cons (em_add (em_mul (em_var 5 rfl rfl rfl) em_int) (em_var 4 rfl rfl rfl)) am_nil)) em_int) em_int) .nil (fun v15_pool_here => ?_) (fun t q Y hY => pe_bm PySem.F.plainAttrs_list PySem.F.slot_list_append PySem.F.type_list_append mt_append (pvar 1 rfl rfl Y hY) (pa_cons (q Y hY) pa_nil))
        exact bm_nil (s := v15_pool_here) (.same (.same (.same (.same (.unk (.unk .nil))))))
      exact bm_nil (s := v12_j) (.same (.same (.same (.unk (.unk (.unk .nil))))))
    exact bm_nil (s := v5_j) (.same (.same (.unk (.unk (.unk (.unk .nil))))))
  refine bm_lit [.val p_script, .own v2_j, .unk, .unk, .unk, .unk] rfl ?_
  refine bm_give 1 rfl ?_
  exact bm_ret (he := em_var 1 rfl rfl rfl) .nil
abbrev s_l_next : Stmt := topS 39
theorem sc_l_next : FnScope ["_law_turns_here", "_law_group", "_law_p", "_law_q", "_law_signs", "_law_r"] ["_law_turns_here", "_law_group", "_law_p"] (defScope s_l_next) := ⟨rfl, rfl, rfl, by decide +kernel, rfl, by decide +kernel, by decide +kernel⟩
theorem ok_l_next {G : GG} {f : Addr} {fd : FuncData} (Fn : Fun G.K "_law_next" "_law_next" s_l_next f fd) : FnOk G.P G.w G.K G.mg G.base (L2.CX G.P G.w) 1 f fd ["_law_turns_here", "_law_group", "_law_p"] (spM G m_l_next) := by
  refine fn_ok [true, true, true, true, true, false] _ Fn sc_l_next (by decide +kernel) rfl ar3_len (fun cdv A outer s H E hr ds hl => ?_)
  obtain ⟨p_turns_here, p_group, p_p, rfl⟩ := len3 hl
  refine ⟨c_l_next p_turns_here p_group p_p, rfl, ?_⟩
  unfold c_l_next
  refine bm_lit [.val p_turns_here, .val p_group, .val p_p, .unk, .unk, .unk] rfl ?_
  refine bm_for (T := Unit) (fj := (fun (v1_j : Unit) => [.val p_turns_here, .val p_group, .val p_p, .unk, .unk, .unk])) (j0 := ()) (im_seq (em_var 1 rfl rfl rfl)) .nil (.same (.same (.same (.unk (.unk (.unk .nil)))))) rfl (tg_name 3 rfl rfl) (fun v2_q v1_j => ?_) (fun v1_j => ?_) rfl
  · skip
    refine .inl ⟨_, rfl, ?_⟩
    refine bm_lit [.val p_turns_here, .val p_group, .val p_p, .val v2_q, .unk, .unk] rfl ?_
    refine bm_if (fj := (fun (v3_j : Unit) => [.val p_turns_here, .val p_group, .val p_p, .val v2_q, .unk, .unk])) (tm_cmp ok_ne rm_ne (em_var 3 rfl rfl rfl) (em_var 2 rfl rfl rfl) (nomark _)) .nil ?_ ?_ (fun v3_j => ?_)
    · skip
      refine bm_lit [.val p_turns_here, .val p_group, .val p_p, .val v2_q, .unk, .unk] rfl ?_
      refine bm_asg 4 (gm_lc 4 rfl  (blkF_of ["_law_turns_here", "_law_group", "_law_p", "_law_q", "_law_signs", "_law_r"] (defScope s_l_next).names rfl rfl (by decide +kernel) : BlkF _ _ [("_law_r", 5)] [true, false, true, true, false, true] [false, false, false, false, false, true] _) rfl (im_seq (em_var 1 rfl rfl rfl)) (tg_name 5 rfl rfl) (fun v5_r => .inl (⟨_, _, _, rfl, ifm_one (tm_w (wm_and (tm_cmp ok_ne rm_ne (em_var 5 rfl rfl rfl) (em_var 2 rfl rfl rfl) (nomark _)) (wm_and1 (tm_cmp ok_ne rm_ne (em_var 5 rfl rfl rfl) (em_var 3 rfl rfl rfl) (nomark _))))), em_ix (em_var 0 rfl rfl rfl) (em_tup (am_cons (em_var 2 rfl rfl rfl) (am_cons (em_var 3 rfl rfl rfl) (am_cons (em_var 5 rfl rfl rfl) am_nil)))) (fun _ _ => rfl), rfl⟩)) rfl rfl rfl (by rfl)) .nil fun v4_signs => ?_
      refine bm_lit [.val p_turns_here, .val p_group, .val p_p, .val v2_q, .val v4_signs, .unk] rfl ?_
      refine bm_ifl (tm_cmp ok_ni rm_mem (em_neg em_int) (em_var 4 rfl rfl rfl) (by with_unfolding_all rfl)) .nil ?_ ?_ ?_
      · skip
        refine bm_lit [.val p_turns_here, .val p_group, .val p_p, .val v2_q, .val v4_signs, .unk] rfl ?_
        exact bm_ret (he := em_var 3 rfl rfl rfl) .nil
      · repeat (first | exact noNx_retO | exact noNx_ret | exact noNx_exn | exact noNx_stk | exact noNx_exnF | exact noNx_exnF2 | refine noNx_bindC (fun _ => ?_) | refine noNx_bind (fun _ => ?_) | refine noNx_ite ?_ ?_ | (dsimp only))
      exact bm_nil (s := ()) (.same (.same (.same (.same (.unk (.unk .nil))))))
    · skip
      exact bm_nil (s := ()) (.same (.same (.same (.same (.unk (.unk .nil))))))
    exact bm_nil (s := ()) (.same (.same (.same (.unk (.unk (.unk .nil))))))
  refine bm_lit [.val p_turns_here, .val p_group, .val p_p, .unk, .unk, .unk] rfl ?_
  exact bm_ret (he := em_neg em_int) .nil
abbrev s_l_round : Stmt := topS 40
theorem sc_l_round : FnScope ["_law_turns_here", "_law_group", "_law_first", "_law_p", "_law_rim", "_law_k", "_law_q"] ["_law_turns_here", "_law_group"] (defScope s_l_round) := ⟨rfl, rfl, rfl, by decide +kernel, rfl, by decide +kernel, by decide +kernel⟩
theorem ok_l_round {G : GG} {f : Addr} {fd : FuncData} (Fn : Fun G.K "_law_round" "_law_round" s_l_round f fd) (B : Bi G) (k_l_next : Kn G 1 "_law_next" m_l_next) : FnOk G.P G.w G.K G.mg G.base (L2.CX G.P G.w) 2 f fd ["_law_turns_here", "_law_group"] (spM G m_l_round) := by
  refine fn_ok [true, true, true, false, true, true, true] _ Fn sc_l_round (by decide +kernel) rfl ar2_len (fun cdv A outer s H E hr ds hl => ?_)
  obtain ⟨p_turns_here, p_group, rfl⟩ := len2 hl
  refine ⟨c_l_round p_turns_here p_group, rfl, ?_⟩
  unfold c_l_round
  refine bm_lit [.val p_turns_here, .val p_group, .unk, .unk, .unk, .unk, .unk] rfl ?_
  refine bm_ifl (tm_cmp ok_lt rm_lt (em_len (by rfl) B.f_len (am_cons (em_var 1 rfl rfl rfl) am_nil)) em_int (nomark _)) .nil ?_ ?_ ?_
  · skip
    refine bm_lit [.val p_turns_here, .val p_group, .unk, .unk, .unk, .unk, .unk] rfl ?_
    exact bm_ret (he := em_var 1 rfl rfl rfl) .nil
  · repeat (first | exact noNx_retO | exact noNx_ret | exact noNx_exn | exact noNx_stk | exact noNx_exnF | exact noNx_exnF2 | refine noNx_bindC (fun _ => ?_) | refine noNx_bind (fun _ => ?_) | refine noNx_ite ?_ ?_ | (dsimp only))
  refine bm_lit [.val p_turns_here, .val p_group, .unk, .unk, .unk, .unk, .unk] rfl ?_
  refine bm_asg 2 (gm_set 2 rfl rfl (em_ix (em_lc (blkF_of ["_law_turns_here", "_law_group", "_law_first", "_law_p", "_law_rim", "_law_k", "_law_q"] (defScope s_l_round).names rfl rfl (by decide +kernel) : BlkF _ _ [("_law_p", 3)] [true, true, false, true, false, false, false] [false, false, false, true, false, false, false] _) rfl (im_seq (em_var 1 rfl rfl rfl)) (tg_name 3 rfl rfl) (fun v2_p => .inl (⟨_, _, _, rfl, ifm_one (tm_cmp ok_ge rm_ge (em_call k_l_next rfl (by rfl) (am_cons (em_var 0 rfl rfl rfl) (am_cons (em_var 1 rfl rfl rfl) (am_cons (em_var 3 rfl rfl rfl) am_nil)))) em_int (nomark _)), em_var 3 rfl rfl rfl, rfl⟩))) em_int (fun _ _ => rfl))) .nil fun v1_first => ?_
  refine bm_lit [.val p_turns_here, .val p_group, .val v1_first, .unk, .unk, .unk, .unk] rfl ?_
  refine bm_asgO 4 (gf_set 4 rfl rfl (fe_lst (am_cons (em_var 2 rfl rfl rfl) am_nil))) .nil fun v3_rim => ?_
  refine bm_lit [.val p_turns_here, .val p_group, .val v1_first, .unk, .own v3_rim, .unk, .unk] rfl ?_
  refine bm_for (T := Unit) (fj := (fun (v4_j : D) => [.val p_turns_here, .val p_group, .val v1_first, .unk, .own v4_j, .unk, .unk])) (j0 := v3_rim) (im_range1 (by rfl) B.f_range (am_cons (em_len (by rfl) B.f_len (am_cons (em_var 1 rfl rfl rfl) am_nil)) am_nil)) .nil (.same (.same (.same (.unk (.same (.unk (.unk .nil))))))) rfl (tg_name 5 rfl rfl) (fun v5_k v4_j => ?_) (fun v4_j => ?_) rfl
  · skip
    refine .inl ⟨_, rfl, ?_⟩
    refine bm_lit [.val p_turns_here, .val p_group, .val v1_first, .unk, .own v4_j, .val v5_k, .unk] rfl ?_
    refine bm_asg 6 (gm_set 6 rfl rfl (em_look (em_call k_l_next rfl (by rfl) (am_cons (em_var 0 rfl rfl rfl) (am_cons (em_var 1 rfl rfl rfl) (am_cons (em_ix (em_var 4 rfl rfl rfl) (em_neg em_int) (fun _ _ => rfl)) am_nil)))))) .nil fun v6_q => ?_
    refine bm_lit [.val p_turns_here, .val p_group, .val v1_first, .unk, .own v4_j, .val v5_k, .val v6_q] rfl ?_
    refine bm_if (fj := (fun (v7_j : D) => [.val p_turns_here, .val p_group, .val v1_first, .unk, .own v7_j, .val v5_k, .val v6_q])) (tm_look (tm_w (wm_and (tm_cmp ok_ne rm_ne (em_var 6 rfl rfl rfl) (em_var 2 rfl rfl rfl) (nomark _)) (wm_and1 (tm_cmp ok_eq rm_eq (em_len (by rfl) B.f_len (am_cons (em_var 4 rfl rfl rfl) am_nil)) (em_add (em_var 5 rfl rfl rfl) em_int) (nomark _)))))) .nil ?_ ?_ (fun v7_j => ?_)
    · skip
      refine bm_lit [.val p_turns_here, .val p_group, .val v1_first, .unk, .own v4_j, .val v5_k, .val v6_q] rfl ?_
      refine bm_app 4 rfl (em_var 6 rfl rfl rfl) .nil (fun v8_rim => ?_) (fun t q Y hY => pe_bm PySem.F.plainAttrs_list PySem.F.slot_list_append PySem.F.type_list_append mt_append (pvar 4 rfl rfl Y hY) (pa_cons (q Y hY) pa_nil))
      exact bm_nil (s := v8_rim) (.same (.same (.same (.unk (.same (.same (.same .nil)))))))
    · skip
      exact bm_nil (s := v4_j) (.same (.same (.same (.unk (.same (.same (.same .nil)))))))
    exact bm_nil (s := v7_j) (.same (.same (.same (.unk (.same (.unk (.unk .nil)))))))
  refine bm_lit [.val p_turns_here, .val p_group, .val v1_first, .unk, .own v4_j, .unk, .unk] rfl ?_
  refine bm_give 4 rfl ?_
  exact bm_ret (he := em_var 4 rfl rfl rfl) .nil
abbrev s_l_turns : Stmt := topS 37
theorem sc_l_turns : FnScope ["_law_places", "_law_turns_here", "_law_a", "_law_b", "_law_c", "_law_size"] ["_law_places"] (defScope s_l_turns) := ⟨rfl, rfl, rfl, by decide +kernel, rfl, by decide +kernel, by decide +kernel⟩
theorem ok_l_turns {G : GG} {f : Addr} {fd : FuncData} (Fn : Fun G.K "_law_turns" "_law_turns" s_l_turns f fd) (B : Bi G) (k_l_cross : Kn G 1 "_law_cross" m_l_cross) : FnOk G.P G.w G.K G.mg G.base (L2.CX G.P G.w) 2 f fd ["_law_places"] (spM G m_l_turns) := by
  refine fn_ok [true, true, true, true, true, true] _ Fn sc_l_turns (by decide +kernel) rfl ar1_len (fun cdv A outer s H E hr ds hl => ?_)
  obtain ⟨p_places, rfl⟩ := len1 hl
  refine ⟨c_l_turns p_places, rfl, ?_⟩
  unfold c_l_turns
  refine bm_lit [.val p_places, .unk, .unk, .unk, .unk, .unk] rfl ?_
  refine bm_asgO 1 (gf_set 1 rfl rfl (fe_dict0)) .nil fun v1_turns_here => ?_
  refine bm_lit [.val p_places, .own v1_turns_here, .unk, .unk, .unk, .unk] rfl ?_
  refine bm_for (T := Unit) (fj := (fun (v2_j : D) => [.val p_places, .own v2_j, .unk, .unk, .unk, .unk])) (j0 := v1_turns_here) (im_range1 (by rfl) B.f_range (am_cons (em_len (by rfl) B.f_len (am_cons (em_var 0 rfl rfl rfl) am_nil)) am_nil)) .nil (.same (.same (.unk (.unk (.unk (.unk .nil)))))) rfl (tg_name 2 rfl rfl) (fun v3_a v2_j => ?_) (fun v2_j => ?_) rfl
  · skip
    refine .inl ⟨_, rfl, ?_⟩
    refine bm_lit [.val p_places, .own v2_j, .val v3_a, .unk, .unk, .unk] rfl ?_
    refine bm_for (T := Unit) (fj := (fun (v4_j : D) => [.val p_places, .own v4_j, .val v3_a, .unk, .unk, .unk])) (j0 := v2_j) (im_range1 (by rfl) B.f_range (am_cons (em_len (by rfl) B.f_len (am_cons (em_var 0 rfl rfl rfl) am_nil)) am_nil)) .nil (.same (.same (.same (.unk (.unk (.unk .nil)))))) rfl (tg_name 3 rfl rfl) (fun v5_b v4_j => ?_) (fun v4_j => ?_) rfl
    · skip
      refine .inl ⟨_, rfl, ?_⟩
      refine bm_lit [.val p_places, .own v4_j, .val v3_a, .val v5_b, .unk, .unk] rfl ?_
      refine bm_for (T := Unit) (fj := (fun (v6_j : D) => [.val p_places, .own v6_j, .val v3_a, .val v5_b, .unk, .unk])) (j0 := v4_j) (im_range1 (by rfl) B.f_range (am_cons (em_len (by rfl) B.f_len (am_cons (em_var 0 rfl rfl rfl) am_nil)) am_nil)) .nil (.same (.same (.same (.same (.unk (.unk .nil)))))) rfl (tg_name 4 rfl rfl) (fun v7_c v6_j => ?_) (fun v6_j => ?_) rfl
      · skip
        refine .inl ⟨_, rfl, ?_⟩
        refine bm_lit [.val p_places, .own v6_j, .val v3_a, .val v5_b, .val v7_c, .unk] rfl ?_
        refine bm_if (fj := (fun (v8_j : D) => [.val p_places, .own v8_j, .val v3_a, .val v5_b, .val v7_c, .unk])) (tm_w (wm_and (tm_cmp ok_ne rm_ne (em_var 2 rfl rfl rfl) (em_var 3 rfl rfl rfl) (nomark _)) (wm_and (tm_cmp ok_ne rm_ne (em_var 2 rfl rfl rfl) (em_var 4 rfl rfl rfl) (nomark _)) (wm_and1 (tm_cmp ok_ne rm_ne (em_var 3 rfl rfl rfl) (em_var 4 rfl rfl rfl) (nomark _)))))) .nil ?_ ?_ (fun v8_j => ?_)
        · skip
          refine bm_lit [.val p_places, .own v6_j, .val v3_a, .val v5_b, .val v7_c, .unk] rfl ?_
          refine bm_asg 5 (gm_set 5 rfl rfl (em_call k_l_cross rfl (by rfl) (am_cons (em_ix (em_var 0 rfl rfl rfl) (em_var 2 rfl rfl rfl) (fun _ _ => rfl)) (am_cons (em_ix (em_var 0 rfl rfl rfl) (em_var 3 rfl rfl rfl) (fun _ _ => rfl)) (am_cons (em_ix (em_var 0 rfl rfl rfl) (em_var 4 rfl rfl rfl) (fun _ _ => rfl)) am_nil))))) .nil fun v9_size => ?_
          refine bm_lit [.val p_places, .own v6_j, .val v3_a, .val v5_b, .val v7_c, .val v9_size] rfl ?_
          refine bm_setitem 1 rfl rfl rfl (em_sub (em_int_of (by rfl) B.f_int (am_cons (em_cmp ok_gt rm_gt (em_var 5 rfl rfl rfl) em_int (nomark _)) am_nil)) (em_int_of (by rfl) B.f_int (am_cons (em_cmp ok_lt rm_lt (em_var 5 rfl rfl rfl) em_int (nomark _)) am_nil))) (em_tup (am_cons (em_var 2 rfl rfl rfl) (am_cons (em_var 3 rfl rfl rfl) (am_cons (em_var 4 rfl rfl rfl) am_nil)))) .nil (fun v10_turns_here => ?_)
          exact bm_nil (s := v10_turns_here) (.same (.same (.same (.same (.same (.unk .nil))))))
        · skip
          exact bm_nil (s := v6_j) (.same (.same (.same (.same (.same (.unk .nil))))))
        exact bm_nil (s := v8_j) (.same (.same (.same (.same (.unk (.unk .nil))))))
      exact bm_nil (s := v6_j) (.same (.same (.same (.unk (.unk (.unk .nil))))))
    exact bm_nil (s := v4_j) (.same (.same (.unk (.unk (.unk (.unk .nil))))))
  refine bm_lit [.val p_places, .own v2_j, .unk, .unk, .unk, .unk] rfl ?_
  refine bm_give 1 rfl ?_
  exact bm_ret (he := em_var 1 rfl rfl rfl) .nil
abbrev s_breaks_five : Stmt := topS 13
theorem sc_breaks_five : FnScope ["letters", "x", "a", "b", "c", "d", "first", "second", "third"] ["letters", "x", "a", "b", "c", "d"] (defScope s_breaks_five) := ⟨rfl, rfl, rfl, by decide +kernel, rfl, by decide +kernel, by decide +kernel⟩
theorem ok_breaks_five {G : GG} {f : Addr} {fd : FuncData} (Fn : Fun G.K "breaks_five" "breaks_five" s_breaks_five f fd) (k_turn_of : Kn G 2 "turn_of" m_turn_of) : FnOk G.P G.w G.K G.mg G.base (L2.CX G.P G.w) 3 f fd ["letters", "x", "a", "b", "c", "d"] (spM G m_breaks_five) := by
  refine fn_ok [true, true, true, true, true, true, true, true, true] _ Fn sc_breaks_five (by decide +kernel) rfl ar6_len (fun cdv A outer s H E hr ds hl => ?_)
  obtain ⟨p_letters, p_x, p_a, p_b, p_c, p_d, rfl⟩ := len6 hl
  refine ⟨c_breaks_five p_letters p_x p_a p_b p_c p_d, rfl, ?_⟩
  unfold c_breaks_five
  refine bm_lit [.val p_letters, .val p_x, .val p_a, .val p_b, .val p_c, .val p_d, .unk, .unk, .unk] rfl ?_
  refine bm_asg 6 (gm_set 6 rfl rfl (em_mul (em_call k_turn_of rfl (by rfl) (am_cons (em_var 0 rfl rfl rfl) (am_cons (em_var 1 rfl rfl rfl) (am_cons (em_var 2 rfl rfl rfl) (am_cons (em_var 3 rfl rfl rfl) am_nil))))) (em_call k_turn_of rfl (by rfl) (am_cons (em_var 0 rfl rfl rfl) (am_cons (em_var 1 rfl rfl rfl) (am_cons (em_var 4 rfl rfl rfl) (am_cons (em_var 5 rfl rfl rfl) am_nil))))))) .nil fun v1_first => ?_
  refine bm_lit [.val p_letters, .val p_x, .val p_a, .val p_b, .val p_c, .val p_d, .val v1_first, .unk, .unk] rfl ?_
  refine bm_asg 7 (gm_set 7 rfl rfl (em_mul (em_neg (em_call k_turn_of rfl (by rfl) (am_cons (em_var 0 rfl rfl rfl) (am_cons (em_var 1 rfl rfl rfl) (am_cons (em_var 2 rfl rfl rfl) (am_cons (em_var 4 rfl rfl rfl) am_nil)))))) (em_call k_turn_of rfl (by rfl) (am_cons (em_var 0 rfl rfl rfl) (am_cons (em_var 1 rfl rfl rfl) (am_cons (em_var 3 rfl rfl rfl) (am_cons (em_var 5 rfl rfl rfl) am_nil))))))) .nil fun v2_second => ?_
  refine bm_lit [.val p_letters, .val p_x, .val p_a, .val p_b, .val p_c, .val p_d, .val v1_first, .val v2_second, .unk] rfl ?_
  refine bm_asg 8 (gm_set 8 rfl rfl (em_mul (em_call k_turn_of rfl (by rfl) (am_cons (em_var 0 rfl rfl rfl) (am_cons (em_var 1 rfl rfl rfl) (am_cons (em_var 2 rfl rfl rfl) (am_cons (em_var 5 rfl rfl rfl) am_nil))))) (em_call k_turn_of rfl (by rfl) (am_cons (em_var 0 rfl rfl rfl) (am_cons (em_var 1 rfl rfl rfl) (am_cons (em_var 3 rfl rfl rfl) (am_cons (em_var 4 rfl rfl rfl) am_nil))))))) .nil fun v3_third => ?_
  refine bm_lit [.val p_letters, .val p_x, .val p_a, .val p_b, .val p_c, .val p_d, .val v1_first, .val v2_second, .val v3_third] rfl ?_
  exact bm_ret (he := em_chain3 ok_eq rm_eq ok_eq rm_eq ok_ne rm_ne (em_var 6 rfl rfl rfl) (em_var 7 rfl rfl rfl) (em_var 8 rfl rfl rfl) em_int) .nil
abbrev s_last_breach : Stmt := topS 14
theorem sc_last_breach : FnScope ["letters", "a", "b", "c", "w", "four", "p", "q", "r", "v", "x", "s", "post"] ["letters", "a", "b", "c"] (defScope s_last_breach) := ⟨rfl, rfl, rfl, by decide +kernel, rfl, by decide +kernel, by decide +kernel⟩
theorem ok_last_breach {G : GG} {f : Addr} {fd : FuncData} (Fn : Fun G.K "last_breach" "last_breach" s_last_breach f fd) (B : Bi G) (k_breaks_five : Kn G 3 "breaks_five" m_breaks_five) (k_position : Kn G 3 "position" m_position) : FnOk G.P G.w G.K G.mg G.base (L2.CX G.P G.w) 4 f fd ["letters", "a", "b", "c"] (spM G m_last_breach) := by
  refine fn_ok [true, true, true, true, true, true, true, true, true, true, true, true, false] _ Fn sc_last_breach (by decide +kernel) rfl ar4_len (fun cdv A outer s H E hr ds hl => ?_)
  obtain ⟨p_letters, p_a, p_b, p_c, rfl⟩ := len4 hl
  refine ⟨c_last_breach p_letters p_a p_b p_c, rfl, ?_⟩
  unfold c_last_breach
  refine bm_lit [.val p_letters, .val p_a, .val p_b, .val p_c, .unk, .unk, .unk, .unk, .unk, .unk, .unk, .unk, .unk] rfl ?_
  refine bm_for (T := Unit) (fj := (fun (v1_j : Unit) => [.val p_letters, .val p_a, .val p_b, .val p_c, .unk, .unk, .unk, .unk, .unk, .unk, .unk, .unk, .unk])) (j0 := ()) (im_range1 (by rfl) B.f_range (am_cons (em_var 1 rfl rfl rfl) am_nil)) .nil (.same (.same (.same (.same (.unk (.unk (.unk (.unk (.unk (.unk (.unk (.unk (.unk .nil))))))))))))) rfl (tg_name 4 rfl rfl) (fun v2_w v1_j => ?_) (fun v1_j => ?_) rfl
  · skip
    refine .inl ⟨_, rfl, ?_⟩
    refine bm_lit [.val p_letters, .val p_a, .val p_b, .val p_c, .val v2_w, .unk, .unk, .unk, .unk, .unk, .unk, .unk, .unk] rfl ?_
    refine bm_asg 5 (gm_set 5 rfl rfl (em_lst (am_cons (em_tup (am_cons (em_var 4 rfl rfl rfl) (am_cons (em_var 1 rfl rfl rfl) (am_cons (em_var 2 rfl rfl rfl) am_nil)))) (am_cons (em_tup (am_cons (em_var 4 rfl rfl rfl) (am_cons (em_var 1 rfl rfl rfl) (am_cons (em_var 3 rfl rfl rfl) am_nil)))) (am_cons (em_tup (am_cons (em_var 4 rfl rfl rfl) (am_cons (em_var 2 rfl rfl rfl) (am_cons (em_var 3 rfl rfl rfl) am_nil)))) (am_cons (em_tup (am_cons (em_var 1 rfl rfl rfl) (am_cons (em_var 2 rfl rfl rfl) (am_cons (em_var 3 rfl rfl rfl) am_nil)))) am_nil)))))) .nil fun v3_four => ?_
    refine bm_lit [.val p_letters, .val p_a, .val p_b, .val p_c, .val v2_w, .val v3_four, .unk, .unk, .unk, .unk, .unk, .unk, .unk] rfl ?_
    refine bm_ifl (tm_cmp ok_in rm_mem (em_join em_str (em_lc (blkF_of ["letters", "a", "b", "c", "w", "four", "p", "q", "r", "v", "x", "s", "post"] (defScope s_last_breach).names rfl rfl (by decide +kernel) : BlkF _ _ [("p", 6), ("q", 7), ("r", 8)] [true, false, false, false, false, false, true, true, true, false, false, false, false] [false, false, false, false, false, false, true, true, true, false, false, false, false] _) rfl (im_seq (em_var 5 rfl rfl rfl)) (tg_tup 3 (tgs_cons (tg_name 6 rfl rfl) (tgs_cons (tg_name 7 rfl rfl) (tgs_cons (tg_name 8 rfl rfl) (tgs_nil)))) rfl (tgc_len (tgc_len (tgc_len (tgn_len))))) (fun v4_t => (by refine (un3_cs v4_t).elim (fun h => ?_) (fun hz => .inr (hz _ _)); obtain ⟨v5_p, v6_q, v7_r, h⟩ := h; rw [un3_at h, tgTup_at h]; exact .inl (⟨_, _, _, rfl, ifm_nil, em_ix (em_var 0 rfl rfl rfl) (em_call k_position rfl (by rfl) (am_cons (em_var 6 rfl rfl rfl) (am_cons (em_var 7 rfl rfl rfl) (am_cons (em_var 8 rfl rfl rfl) am_nil)))) (fun _ _ => rfl), rfl⟩))))) (em_tup (am_cons em_str (am_cons em_str am_nil))) (by with_unfolding_all rfl)) .nil ?_ ?_ ?_
    · skip
      refine bm_lit [.val p_letters, .val p_a, .val p_b, .val p_c, .val v2_w, .val v3_four, .unk, .unk, .unk, .unk, .unk, .unk, .unk] rfl ?_
      exact bm_ret (he := em_tup (am_cons (em_var 4 rfl rfl rfl) (am_cons (em_var 1 rfl rfl rfl) (am_cons (em_var 2 rfl rfl rfl) (am_cons (em_var 3 rfl rfl rfl) am_nil))))) .nil
    · repeat (first | exact noNx_retO | exact noNx_ret | exact noNx_exn | exact noNx_stk | exact noNx_exnF | exact noNx_exnF2 | refine noNx_bindC (fun _ => ?_) | refine noNx_bind (fun _ => ?_) | refine noNx_ite ?_ ?_ | (dsimp only))
    exact bm_nil (s := ()) (.same (.same (.same (.same (.unk (.unk (.unk (.unk (.unk (.unk (.unk (.unk (.unk .nil)))))))))))))
  refine bm_lit [.val p_letters, .val p_a, .val p_b, .val p_c, .unk, .unk, .unk, .unk, .unk, .unk, .unk, .unk, .unk] rfl ?_
  refine bm_for (T := Unit) (fj := (fun (v8_j : Unit) => [.val p_letters, .val p_a, .val p_b, .val p_c, .unk, .unk, .unk, .unk, .unk, .unk, .unk, .unk, .unk])) (j0 := ()) (im_range1 (by rfl) B.f_range (am_cons (em_var 1 rfl rfl rfl) am_nil)) .nil (.same (.same (.same (.same (.unk (.unk (.unk (.unk (.unk (.unk (.unk (.unk (.unk .nil))))))))))))) rfl (tg_name 4 rfl rfl) (fun v9_w v8_j => ?_) (fun v8_j => ?_) rfl
  · skip
    refine .inl ⟨_, rfl, ?_⟩
    refine bm_lit [.val p_letters, .val p_a, .val p_b, .val p_c, .val v9_w, .unk, .unk, .unk, .unk, .unk, .unk, .unk, .unk] rfl ?_
    refine bm_for (T := Unit) (fj := (fun (v10_j : Unit) => [.val p_letters, .val p_a, .val p_b, .val p_c, .val v9_w, .unk, .unk, .unk, .unk, .unk, .unk, .unk, .unk])) (j0 := ()) (im_range1 (by rfl) B.f_range (am_cons (em_var 4 rfl rfl rfl) am_nil)) .nil (.same (.same (.same (.same (.same (.unk (.unk (.unk (.unk (.unk (.unk (.unk (.unk .nil))))))))))))) rfl (tg_name 9 rfl rfl) (fun v11_v v10_j => ?_) (fun v10_j => ?_) rfl
    · skip
      refine .inl ⟨_, rfl, ?_⟩
      refine bm_lit [.val p_letters, .val p_a, .val p_b, .val p_c, .val v9_w, .unk, .unk, .unk, .unk, .val v11_v, .unk, .unk, .unk] rfl ?_
      refine bm_for (T := Unit) (fj := (fun (v12_j : Unit) => [.val p_letters, .val p_a, .val p_b, .val p_c, .val v9_w, .unk, .unk, .unk, .unk, .val v11_v, .unk, .unk, .unk])) (j0 := ()) (im_seq (em_tup (am_cons (em_var 9 rfl rfl rfl) (am_cons (em_var 4 rfl rfl rfl) (am_cons (em_var 1 rfl rfl rfl) (am_cons (em_var 2 rfl rfl rfl) (am_cons (em_var 3 rfl rfl rfl) am_nil))))))) .nil (.same (.same (.same (.same (.same (.unk (.unk (.unk (.unk (.same (.unk (.unk (.unk .nil))))))))))))) rfl (tg_name 10 rfl rfl) (fun v13_x v12_j => ?_) (fun v12_j => ?_) rfl
      · skip
        refine .inl ⟨_, rfl, ?_⟩
        refine bm_lit [.val p_letters, .val p_a, .val p_b, .val p_c, .val v9_w, .unk, .unk, .unk, .unk, .val v11_v, .val v13_x, .unk, .unk] rfl ?_
        refine bm_asgT (em_lc (blkF_of ["letters", "a", "b", "c", "w", "four", "p", "q", "r", "v", "x", "s", "post"] (defScope s_last_breach).names rfl rfl (by decide +kernel) : BlkF _ _ [("post", 12)] [false, false, false, false, false, false, false, false, false, false, true, false, true] [false, false, false, false, false, false, false, false, false, false, false, false, true] _) rfl (im_seq (em_tup (am_cons (em_var 9 rfl rfl rfl) (am_cons (em_var 4 rfl rfl rfl) (am_cons (em_var 1 rfl rfl rfl) (am_cons (em_var 2 rfl rfl rfl) (am_cons (em_var 3 rfl rfl rfl) am_nil))))))) (tg_name 12 rfl rfl) (fun v14_post => .inl (⟨_, _, _, rfl, ifm_one (tm_cmp ok_ne rm_ne (em_var 12 rfl rfl rfl) (em_var 10 rfl rfl rfl) (nomark _)), em_var 12 rfl rfl rfl, rfl⟩))) (tg_tup 4 (tgs_cons (tg_name 6 rfl rfl) (tgs_cons (tg_name 7 rfl rfl) (tgs_cons (tg_name 8 rfl rfl) (tgs_cons (tg_name 11 rfl rfl) (tgs_nil))))) rfl (tgc_len (tgc_len (tgc_len (tgc_len (tgn_len)))))) .nil (fun v15_t => ?_)
        refine (un4_cs v15_t).elim (fun h => ?_) (fun hz => .inr (hz _ _))
        obtain ⟨v16_p, v17_q, v18_r, v19_s, h⟩ := h
        rw [un4_at h, tgTup_at h]
        refine .inl ⟨_, rfl, ?_⟩
        refine bm_lit [.val p_letters, .val p_a, .val p_b, .val p_c, .val v9_w, .unk, .val v16_p, .val v17_q, .val v18_r, .val v11_v, .val v13_x, .val v19_s, .unk] rfl ?_
        refine bm_ifl (tm_val (em_call k_breaks_five rfl (by rfl) (am_cons (em_var 0 rfl rfl rfl) (am_cons (em_var 10 rfl rfl rfl) (am_cons (em_var 6 rfl rfl rfl) (am_cons (em_var 7 rfl rfl rfl) (am_cons (em_var 8 rfl rfl rfl) (am_cons (em_var 11 rfl rfl rfl) am_nil))))))) (fun _ _ _ => rfl)) .nil ?_ ?_ ?_
        · skip
          refine bm_lit [.val p_letters, .val p_a, .val p_b, .val p_c, .val v9_w, .unk, .val v16_p, .val v17_q, .val v18_r, .val v11_v, .val v13_x, .val v19_s, .unk] rfl ?_
          exact bm_ret (he := em_tup (am_cons (em_var 10 rfl rfl rfl) (am_cons (em_var 6 rfl rfl rfl) (am_cons (em_var 7 rfl rfl rfl) (am_cons (em_var 8 rfl rfl rfl) (am_cons (em_var 11 rfl rfl rfl) am_nil)))))) .nil
        · repeat (first | exact noNx_retO | exact noNx_ret | exact noNx_exn | exact noNx_stk | exact noNx_exnF | exact noNx_exnF2 | refine noNx_bindC (fun _ => ?_) | refine noNx_bind (fun _ => ?_) | refine noNx_ite ?_ ?_ | (dsimp only))
        exact bm_nil (s := ()) (.same (.same (.same (.same (.same (.unk (.unk (.unk (.unk (.same (.unk (.unk (.unk .nil)))))))))))))
      exact bm_nil (s := ()) (.same (.same (.same (.same (.same (.unk (.unk (.unk (.unk (.unk (.unk (.unk (.unk .nil)))))))))))))
    exact bm_nil (s := ()) (.same (.same (.same (.same (.unk (.unk (.unk (.unk (.unk (.unk (.unk (.unk (.unk .nil)))))))))))))
  refine bm_lit [.val p_letters, .val p_a, .val p_b, .val p_c, .unk, .unk, .unk, .unk, .unk, .unk, .unk, .unk, .unk] rfl ?_
  exact bm_ret (he := em_non) .nil
abbrev s_threes : Stmt := topS 9
theorem sc_threes : FnScope ["posts", "c", "b", "a"] ["posts"] (defScope s_threes) := ⟨rfl, rfl, rfl, by decide +kernel, rfl, by decide +kernel, by decide +kernel⟩
theorem ok_threes {G : GG} {f : Addr} {fd : FuncData} (Fn : Fun G.K "threes" "threes" s_threes f fd) (B : Bi G) : FnOk G.P G.w G.K G.mg G.base (L2.CX G.P G.w) 1 f fd ["posts"] (spM G m_threes) := by
  refine fn_ok [true, false, false, false] _ Fn sc_threes (by decide +kernel) rfl ar1_len (fun cdv A outer s H E hr ds hl => ?_)
  obtain ⟨p_posts, rfl⟩ := len1 hl
  refine ⟨c_threes p_posts, rfl, ?_⟩
  unfold c_threes
  refine bm_lit [.val p_posts, .unk, .unk, .unk] rfl ?_
  exact bm_ret (he := em_lc3 (L1 := [false, false, true, true]) (vs1 := [2, 3]) (L2 := [false, false, false, true]) (vs2 := [3]) (blkF_of ["posts", "c", "b", "a"] (defScope s_threes).names rfl rfl (by decide +kernel) : BlkF _ _ [("c", 1), ("b", 2), ("a", 3)] [false, true, true, true] [false, true, true, true] _) (by decide +kernel) (by decide +kernel) (by decide +kernel) (by decide +kernel) (by decide +kernel) (by decide +kernel) rfl (im_range1 (by rfl) B.f_range (am_cons (em_var 0 rfl rfl rfl) am_nil)) (tg_name 1 rfl rfl) (tg_name 2 rfl rfl) (tg_name 3 rfl rfl) (fun v1_c => .inl (⟨[.val p_posts, .val v1_c, .unk, .unk], _, _, rfl, ifm_nil, ⟨_, _, im_range1 (by rfl) B.f_range (am_cons (em_var 1 rfl rfl rfl) am_nil), fun v2_b => .inl (⟨[.val p_posts, .val v1_c, .val v2_b, .unk], _, _, rfl, ifm_nil, ⟨_, _, im_range1 (by rfl) B.f_range (am_cons (em_var 2 rfl rfl rfl) am_nil), fun v3_a => .inl (⟨[.val p_posts, .val v1_c, .val v2_b, .val v3_a], _, _, rfl, ifm_nil, ⟨_, em_tup (am_cons (em_var 3 rfl rfl rfl) (am_cons (em_var 2 rfl rfl rfl) (am_cons (em_var 1 rfl rfl rfl) am_nil))), rfl⟩, rfl⟩), rfl⟩, rfl⟩), rfl⟩, rfl⟩))) .nil
abbrev s_breach : Stmt := topS 15
theorem sc_breach : FnScope ["letters", "posts", "a", "b", "c", "found"] ["letters", "posts"] (defScope s_breach) := ⟨rfl, rfl, rfl, by decide +kernel, rfl, by decide +kernel, by decide +kernel⟩
theorem ok_breach {G : GG} {f : Addr} {fd : FuncData} (Fn : Fun G.K "breach" "breach" s_breach f fd) (k_last_breach : Kn G 4 "last_breach" m_last_breach) (k_threes : Kn G 4 "threes" m_threes) : FnOk G.P G.w G.K G.mg G.base (L2.CX G.P G.w) 5 f fd ["letters", "posts"] (spM G m_breach) := by
  refine fn_ok [true, true, true, true, true, true] _ Fn sc_breach (by decide +kernel) rfl ar2_len (fun cdv A outer s H E hr ds hl => ?_)
  obtain ⟨p_letters, p_posts, rfl⟩ := len2 hl
  refine ⟨c_breach p_letters p_posts, rfl, ?_⟩
  unfold c_breach
  refine bm_lit [.val p_letters, .val p_posts, .unk, .unk, .unk, .unk] rfl ?_
  refine bm_for (T := Unit) (fj := (fun (v1_j : Unit) => [.val p_letters, .val p_posts, .unk, .unk, .unk, .unk])) (j0 := ()) (im_seq (em_call k_threes rfl (by rfl) (am_cons (em_var 1 rfl rfl rfl) am_nil))) .nil (.same (.same (.unk (.unk (.unk (.unk .nil)))))) rfl (tg_tup 3 (tgs_cons (tg_name 2 rfl rfl) (tgs_cons (tg_name 3 rfl rfl) (tgs_cons (tg_name 4 rfl rfl) (tgs_nil)))) rfl (tgc_len (tgc_len (tgc_len (tgn_len))))) (fun v2_t v1_j => ?_) (fun v1_j => ?_) rfl
  · skip
    refine (un3_cs v2_t).elim (fun h => ?_) (fun hz => .inr (hz _ _))
    obtain ⟨v3_a, v4_b, v5_c, h⟩ := h
    rw [un3_at h, tgTup_at h]
    refine .inl ⟨_, rfl, ?_⟩
    refine bm_lit [.val p_letters, .val p_posts, .val v3_a, .val v4_b, .val v5_c, .unk] rfl ?_
    refine bm_asg 5 (gm_set 5 rfl rfl (em_call k_last_breach rfl (by rfl) (am_cons (em_var 0 rfl rfl rfl) (am_cons (em_var 2 rfl rfl rfl) (am_cons (em_var 3 rfl rfl rfl) (am_cons (em_var 4 rfl rfl rfl) am_nil)))))) .nil fun v6_found => ?_
    refine bm_lit [.val p_letters, .val p_posts, .val v3_a, .val v4_b, .val v5_c, .val v6_found] rfl ?_
    refine bm_ifl (tm_cmp ok_isnot rm_isnot (em_var 5 rfl rfl rfl) em_non (nomark _)) .nil ?_ ?_ ?_
    · skip
      refine bm_lit [.val p_letters, .val p_posts, .val v3_a, .val v4_b, .val v5_c, .val v6_found] rfl ?_
      exact bm_ret (he := em_var 5 rfl rfl rfl) .nil
    · repeat (first | exact noNx_retO | exact noNx_ret | exact noNx_exn | exact noNx_stk | exact noNx_exnF | exact noNx_exnF2 | refine noNx_bindC (fun _ => ?_) | refine noNx_bind (fun _ => ?_) | refine noNx_ite ?_ ?_ | (dsimp only))
    exact bm_nil (s := ()) (.same (.same (.unk (.unk (.unk (.unk .nil))))))
  refine bm_lit [.val p_letters, .val p_posts, .unk, .unk, .unk, .unk] rfl ?_
  exact bm_ret (he := em_non) .nil
abbrev s_Table___init : Stmt := clsS (topS 27) 1
theorem sc_Table___init : FnScope ["self", "letters", "posts", "found"] ["self", "letters"] (defScope s_Table___init) := ⟨rfl, rfl, rfl, by decide +kernel, rfl, by decide +kernel, by decide +kernel⟩
theorem ok_Table___init {G : GG} {f : Addr} {fd : FuncData} (Fn : Fun G.K "__init__" "Table.__init__" s_Table___init f fd) (B : Bi G) (k_breach : Kn G 5 "breach" m_breach) (x_BadInput : ExcK G "BadInput" 1) (tn_str : TyN G "str" [("NoneType", false), ("bool", false), ("int", false), ("str", true), ("list", false), ("tuple", false)] [(1, false)]) (kd_SIZES : KdI G "SIZES" [(1, 3), (4, 4), (10, 5), (20, 6), (35, 7), (56, 8)]) (xf_Quarrel : ExF G 5 "Quarrel" 3 "posts") (fl_1_letters : Fld G 1 "letters") (fl_1_posts : Fld G 1 "posts") : FnOk G.P G.w G.K G.mg G.base (L2.CX G.P G.w) 6 f fd ["self", "letters"] (spI G 1 m_Table___init) := by
  refine init_ok [true, true, true, true] _ Fn sc_Table___init (by decide +kernel) rfl (fun ds h => congrArg (· + 1) (arF1_len ds h)) (fun x cdv A outer s H E hr ds hl => ?_)
  obtain ⟨p_letters, rfl⟩ := len1 (Nat.succ.inj hl)
  refine ⟨c_Table___init p_letters, rfl, ?_⟩
  unfold c_Table___init
  refine bm_lit [.own (.slf x 1 []), .val p_letters, .unk, .unk] rfl ?_
  refine bm_ifl (tm_w (wm_or (tm_not (tm_val (em_isi tn_str (by rfl) B.f_isinstance (by rfl) (em_var 1 rfl rfl rfl)) (fun _ _ _ => rfl))) (wm_or (tm_kdC ok_kdn kd_SIZES (by rfl) (em_len (by rfl) B.f_len (am_cons (em_var 1 rfl rfl rfl) am_nil)) (by with_unfolding_all rfl)) (wm_or1 (tm_cmp ok_ne rm_ne (em_stripC (em_var 1 rfl rfl rfl) em_str) em_str (nomark _)))))) .nil ?_ ?_ ?_
  · skip
    refine bm_lit [.own (.slf x 1 []), .val p_letters, .unk, .unk] rfl ?_
    exact bm_raise x_BadInput rfl (by rfl) .nil
  · repeat (first | exact noNx_retO | exact noNx_ret | exact noNx_exn | exact noNx_stk | exact noNx_exnF | exact noNx_exnF2 | refine noNx_bindC (fun _ => ?_) | refine noNx_bind (fun _ => ?_) | refine noNx_ite ?_ ?_ | (dsimp only))
  refine bm_lit [.own (.slf x 1 []), .val p_letters, .unk, .unk] rfl ?_
  refine bm_asg 2 (gm_set 2 rfl rfl (em_kdIx kd_SIZES (by rfl) (em_len (by rfl) B.f_len (am_cons (em_var 1 rfl rfl rfl) am_nil)) (fun _ _ => rfl))) .nil fun v1_posts => ?_
  refine bm_lit [.own (.slf x 1 []), .val p_letters, .val v1_posts, .unk] rfl ?_
  refine bm_asg 3 (gm_set 3 rfl rfl (em_call k_breach rfl (by rfl) (am_cons (em_var 1 rfl rfl rfl) (am_cons (em_var 2 rfl rfl rfl) am_nil)))) .nil fun v2_found => ?_
  refine bm_lit [.own (.slf x 1 []), .val p_letters, .val v1_posts, .val v2_found] rfl ?_
  refine bm_ifl (tm_cmp ok_isnot rm_isnot (em_var 3 rfl rfl rfl) em_non (nomark _)) .nil ?_ ?_ ?_
  · skip
    refine bm_lit [.own (.slf x 1 []), .val p_letters, .val v1_posts, .val v2_found] rfl ?_
    exact bm_raiseF xf_Quarrel rfl (by rfl) (am_cons (em_var 3 rfl rfl rfl) am_nil) .nil
  · repeat (first | exact noNx_retO | exact noNx_ret | exact noNx_exn | exact noNx_stk | exact noNx_exnF | exact noNx_exnF2 | refine noNx_bindC (fun _ => ?_) | refine noNx_bind (fun _ => ?_) | refine noNx_ite ?_ ?_ | (dsimp only))
  refine bm_lit [.own (.slf x 1 []), .val p_letters, .val v1_posts, .val v2_found] rfl ?_
  refine bm_fset 0 fl_1_letters rfl rfl rfl (em_var 1 rfl rfl rfl) .nil (fun v3_self => ?_)
  refine bm_lit [.own (.slf x 1 v3_self), .val p_letters, .val v1_posts, .val v2_found] rfl ?_
  refine bm_fset 0 fl_1_posts rfl rfl rfl (em_var 2 rfl rfl rfl) .nil (fun v4_self => ?_)
  exact bm_nil (s := v4_self) (.same (.unk (.unk (.unk .nil))))
abbrev s_in_round_order : Stmt := topS 29
theorem sc_in_round_order : FnScope ["letters", "rim", "first", "others", "before", "r", "q"] ["letters", "rim"] (defScope s_in_round_order) := ⟨rfl, rfl, rfl, by decide +kernel, rfl, by decide +kernel, by decide +kernel⟩
def dcNames (s : Stmt) : List (Str × NameKind) := match (defBody s).getD 1 (.Pass ⟨0, 0, 0, 0⟩) with
  | .Assign _ (.DictComp _ _ _ sc _) _ => sc.names
  | _ => []
abbrev lamQ : Str := (envOfC "in_round_order" (defScope s_in_round_order) 0 0 .none).qual ++ "<lambda>"
theorem ok_iro {G : GG} {f c P : Addr} {oc dV kV doc pm ct : Value} {an od : Option Addr} {osl : Array (Option Value)} (lk : G.K.lookup f = some ⟨oc, od, .func (PySem.W.fnOf "in_round_order" "in_round_order" (defArgs s_in_round_order) (defBody s_in_round_order) (defScope s_in_round_order) dV kV doc pm an (.ref c) ct), osl⟩)
    (hcd : PySem.W.codeIn G.K (.ref c) "in_round_order" = true) (TB : LamX.TabB G.base G.mg c P) (B : Bi G) (kt : Kn G 3 "turn_of" m_turn_of) :
    FnOk G.P G.w G.K G.mg G.base (L2.CX G.P G.w) 4 f (PySem.W.fnOf "in_round_order" "in_round_order" (defArgs s_in_round_order) (defBody s_in_round_order) (defScope s_in_round_order) dV kV doc pm an (.ref c) ct) ["letters", "rim"] (spIro G [(P, lamQ)]) := by
  refine L2.fn_of lk hcd sc_in_round_order (fun vs H Q E h => ?_) fun A outer s H vs Q E hr hsp => ?_
  · obtain ⟨S, l, rim, row, eS, rr, _⟩ := h
    exact rr.length
  obtain ⟨S, l, rim, row, eS, rr, hI, hT, po⟩ := hsp
  obtain ⟨z, ns, kvs, kf, rfl, hb, hk, rfl, hz⟩ := hI.ex
  have hX : (mkF G sc_in_round_order [true, true, true, true, true, false, false] _ (by decide +kernel) rfl 3 "in_round_order" f (.ref c) A outer s H E hr).Xs (cxOf (L2.CX G.P G.w) G.P G.w G.K G.mg G.base ["letters", "rim", "first", "others", "before", "r", "q"] "in_round_order" (defScope s_in_round_order) f (.ref c) A outer s H E) := rfl
  have h1 : BM (mkF G sc_in_round_order [true, true, true, true, true, false, false] _ (by decide +kernel) rfl 3 "in_round_order" f (.ref c) A outer s H E hr) ((defBody s_in_round_order).take 2) [.val l, .val (.lst (.int z :: ns.map D.int)), .unk, .unk, .unk, .unk, .unk]
      ((Ctl.nx (.int z, ns.map D.int, .dks kvs) : Ctl Unit (D × List D × D)).out (fun _ => []) fun s => [.val l, .val (.lst (.int z :: ns.map D.int)), .val s.1, .val (.lst s.2.1), .val s.2.2, .unk, .unk]) := by
    have e : (M.bindC (.ok (.lst (.int z :: ns.map D.int))) () fun t => unHd .stk t fun a r => M.bindC (befM l a (.lst r)) () fun b => (Ctl.nx (a, r, b) : Ctl Unit (D × List D × D))) = Ctl.nx (.int z, ns.map D.int, .dks kvs) := by
      show (M.bindC (befM l (.int z) (.lst (ns.map D.int))) () fun b => (Ctl.nx (.int z, ns.map D.int, b) : Ctl Unit (D × List D × D))) = _
      rw [hb]
      rfl
    rw [← e]
    refine bm_asgG (em_var 1 rfl rfl rfl) (tgg_starL 1 (tggs_cons (tgg (tg_name 2 rfl rfl)) (tggs_star (tgg (tg_name 3 rfl rfl)))) rfl) .nil (fun t => ?_)
    cases t with
    | lst ds =>
      cases ds with
      | nil => exact .inr rfl
      | cons a r =>
        refine .inl ⟨_, tgStarL_at.trans rfl, ?_⟩
        refine bm_lit [.val l, .val (.lst (.int z :: ns.map D.int)), .val a, .val (.lst r), .unk, .unk, .unk] rfl ?_
        refine bm_asg 4 (gm_set 4 rfl rfl (em_dc (blkF_of ["letters", "rim", "first", "others", "before", "r", "q"] (defScope s_in_round_order).names rfl rfl (by decide +kernel) : BlkF _ _ [("q", 6)] [true, false, true, true, false, false, true] [false, false, false, false, false, false, true] _) rfl (im_seq (em_var 3 rfl rfl rfl)) (tg_name 6 rfl rfl) (fun v5_q => .inl (⟨_, _, _, _, rfl, ifm_nil, em_var 6 rfl rfl rfl, em_len (by rfl) B.f_len (am_cons (em_lc (blkF_of ["letters", "rim", "first", "others", "before", "r", "q"] (relN (defScope s_in_round_order).names (dcNames s_in_round_order)) rfl rfl (by decide +kernel) : BlkF _ _ [("r", 5)] [true, false, true, false, false, true, true] [false, false, false, false, false, true, false] _) rfl (im_seq (em_var 3 rfl rfl rfl)) (tg_name 5 rfl rfl) (fun v6_r => .inl (⟨_, _, _, rfl, ifm_one (tm_w (wm_and (tm_cmp ok_ne rm_ne (em_var 5 rfl rfl rfl) (em_var 6 rfl rfl rfl) (nomark _)) (wm_and1 (tm_cmp ok_eq rm_eq (em_call kt rfl (by rfl) (am_cons (em_var 0 rfl rfl rfl) (am_cons (em_var 2 rfl rfl rfl) (am_cons (em_var 5 rfl rfl rfl) (am_cons (em_var 6 rfl rfl rfl) am_nil))))) em_int (nomark _))))), em_var 5 rfl rfl rfl, rfl⟩))) am_nil), rfl⟩))) (hs := fun X hX => sw_cellD hX rfl)) .nil fun v4_before => ?_
        refine bm_lit [.val l, .val (.lst (.int z :: ns.map D.int)), .val a, .val (.lst r), .val v4_before, .unk, .unk] rfl ?_
        exact bm_nil (s := (a, r, v4_before)) Weak.refl
    | _ => exact .inr rfl
  have hr' : PSs (cxOf (L2.CX G.P G.w) G.P G.w G.K G.mg G.base ["letters", "rim", "first", "others", "before", "r", "q"] "in_round_order" (defScope s_in_round_order) f (.ref c) A outer s H E) ((defBody s_in_round_order).drop 2)
      (tRet (tOp rCat (cE (mkF G sc_in_round_order [true, true, true, true, true, false, false] _ (by decide +kernel) rfl 3 "in_round_order" f (.ref c) A outer s H E hr) _) (tSortL G.K H [(P, lamQ)] 4 (cE (mkF G sc_in_round_order [true, true, true, true, true, false, false] _ (by decide +kernel) rfl 3 "in_round_order" f (.ref c) A outer s H E hr) _)))) :=
    pss_one (ps_ret (pe_op op_cat (cE_ok _ hX) (pe_sortL (k := 1) (cE_ok _ hX) TB rfl (List.mem_singleton.mpr rfl) (fun q hq _ => by rw [List.mem_singleton.mp hq]; rfl) hr rfl B.f_sorted rfl rfl rfl rfl rfl rfl (fun _ _ _ _ _ _ => rfl) (by decide +kernel) (by decide +kernel) rfl rfl)))
  obtain ⟨t, ht, hq⟩ := run_app hX (sts := defBody s_in_round_order) rfl h1 hr'
  refine ⟨t, ht, hq S H _ _ S H (Grow.refl eS) (starts eS rr (by rw [rr.length]; exact Nat.le_of_ble_eq_true rfl)) fun σ S' H' g hh => ?_⟩
  exact run_sorted (X := cxOf (L2.CX G.P G.w) G.P G.w G.K G.mg G.base ["letters", "rim", "first", "others", "before", "r", "q"] "in_round_order" (defScope s_in_round_order) f (.ref c) A outer s H E) (em_lst (am_cons (em_var 2 rfl rfl rfl) am_nil)) (em_var 3 rfl rfl rfl).c rfl rfl rfl hk hz hh (hT.ext g.h) g.h po
abbrev s_rims : Stmt := topS 30
theorem sc_rims : FnScope ["table", "left", "result", "rim", "p"] ["table"] (defScope s_rims) := ⟨rfl, rfl, rfl, by decide +kernel, rfl, by decide +kernel, by decide +kernel⟩
theorem ok_rims10 {G : GG} {f : Addr} {fd : FuncData} {T : List (Addr × Str)} (Fn : Fun G.K "rims" "rims" s_rims f fd) (B : Bi G) (kon : Kn G 4 "on_rim" m_on_rim) (k_iro : KnSp G 4 "in_round_order" (spIro G T)) (fl_1_posts : Fld G 1 "posts") (fl_1_letters : Fld G 1 "letters") :
    FnOk G.P G.w G.K G.mg G.base (L2.CX G.P G.w) 5 f fd ["table"] (spRims G T) := by
  refine Fun.okX Fn sc_rims (fun vs H Q E h => ?_) (fun cdv A outer s H vs Q E hr h => ?_)
  · obtain ⟨S, d, L, rows, eS, rr, _⟩ := h
    exact rr.length
  obtain ⟨S, d, L, rows, eS, rr, hL, hR, hz, hT, po⟩ := h
  have hX : (mkF G sc_rims [true, true, true, true, false] _ (by decide +kernel) rfl 4 "rims" f cdv A outer s H E hr).Xs (cxOf (L2.CX G.P G.w) G.P G.w G.K G.mg G.base ["table", "left", "result", "rim", "p"] "rims" (defScope s_rims) f cdv A outer s H E) := rfl
  have h1 : BM (mkF G sc_rims [true, true, true, true, false] _ (by decide +kernel) rfl 4 "rims" f cdv A outer s H E hr) ((defBody s_rims).take 2) [.val d, .unk, .unk, .unk, .unk]
      ((Ctl.nx (.lst (L.map D.int), .lst []) : Ctl Unit (D × D)).out (fun _ => []) fun s => [.val d, .val s.1, .own s.2, .unk, .unk]) := by
    have e : (M.bindC (b1 pyListRg (b1 (pyFld 1 "posts") (.ok d))) () fun v1 => M.bindC (b1 mkLst (mlist [])) () fun v2 => (Ctl.nx (v1, v2) : Ctl Unit (D × D))) = Ctl.nx (.lst (L.map D.int), .lst []) := by
      rw [hL]
      rfl
    rw [← e]
    refine bm_asg 1 (gm_set 1 rfl rfl (em_listRg rfl (by rfl) B.f_list (by rfl) B.f_range (em_fld fl_1_posts (em_var 0 rfl rfl rfl)))) .nil fun v1 => ?_
    refine bm_lit [.val d, .val v1, .unk, .unk, .unk] rfl ?_
    refine bm_asgO 2 (gf_set 2 rfl rfl (fe_lst (am_nil))) .nil fun v2 => ?_
    refine bm_lit [.val d, .val v1, .own v2, .unk, .unk] rfl ?_
    exact bm_nil (s := (v1, v2)) Weak.refl
  have hr' : PSs (cxOf (L2.CX G.P G.w) G.P G.w G.K G.mg G.base ["table", "left", "result", "rim", "p"] "rims" (defScope s_rims) f cdv A outer s H E) ((defBody s_rims).drop 2)
      (tSeq (tWhile (cT (mkF G sc_rims [true, true, true, true, false] _ (by decide +kernel) rfl 4 "rims" f cdv A outer s H E hr) _) (bodyT (mkF G sc_rims [true, true, true, true, false] _ (by decide +kernel) rfl 4 "rims" f cdv A outer s H E hr) T _ _ _)) (tRet (tVar 2))) :=
    ps_rims hX k_iro (Nat.le_refl _) rfl rfl rfl rfl
  obtain ⟨t, ht, hq⟩ := run_app hX (sts := defBody s_rims) rfl h1 hr'
  refine ⟨t, ht, hq S H _ _ S H (Grow.refl eS) (starts eS rr (by rw [rr.length]; exact Nat.le_of_ble_eq_true rfl)) fun σ S' H' g hh => ?_⟩
  obtain ⟨p, hp1, hp2, hp3, vs', hp4, rv⟩ := hh.own 2 _ rfl
  cases rv
  have hh' : Holds G H' σ (nt S') H' [.val d, .val (.lst (L.map D.int)), .val (.adr p), .unk, .unk] := by
    refine holds0 v3 (nt_sub.trans g.sub) (Same.refl _) hh.len fun i x e => ?_
    match i, e with
    | 0, e => cases e; obtain ⟨v, a, r⟩ := hh.val 0 _ rfl; exact ⟨v, a, r.nt⟩
    | 1, e => cases e; obtain ⟨v, a, r⟩ := hh.val 1 _ rfl; exact ⟨v, a, r.nt⟩
    | 2, e => cases e; exact ⟨_, hp1, .adr p⟩
    | 3, e => cases e
    | 4, e => cases e
    | n + 5, e => simp at e
  refine while_rims (rows := rows) (m := rows.length) (p := p) (Hz := H) (T := T) (d := d) (F := (mkF G sc_rims [true, true, true, true, false] _ (by decide +kernel) rfl 4 "rims" f cdv A outer s H E hr)) (fun L p => tm_val (em_var 1 rfl rfl rfl) (fun _ _ _ => rfl)) (fun L p => ?_) (fun L p rim => am_cons (em_fld fl_1_letters (em_var 0 rfl rfl rfl)) (am_cons (em_var 3 rfl rfl rfl) am_nil)) (fun L p rim => ?_) hp3 hz ⟨nt S', L, [], rows, [], rfl, hR, rfl, hh', nt_none hp2, nt_no, hp4, by simp, .nil, .of g.h, hT.ext g.h⟩ (fun σ' H2 as e1 e2 e3 e4 e5 e6 => ⟨_, e1, po p as H2 hp3 e2 e3 e4 e5 e6⟩)
  · refine bm_asg 3 (gm_set 3 rfl rfl (em_lc (blkF_of ["table", "left", "result", "rim", "p"] (defScope s_rims).names rfl rfl (by decide +kernel) : BlkF _ _ [("p", 4)] [true, true, false, false, true] [false, false, false, false, true] _) rfl (im_seq (em_var 1 rfl rfl rfl)) (tg_name 4 rfl rfl) (fun v3_p => .inl (⟨_, _, _, rfl, ifm_one (tm_val (em_call kon rfl (by rfl) (am_cons (em_fld fl_1_letters (em_var 0 rfl rfl rfl)) (am_cons (em_var 1 rfl rfl rfl) (am_cons (em_var 4 rfl rfl rfl) am_nil)))) (fun _ _ _ => rfl)), em_var 4 rfl rfl rfl, rfl⟩))) (hs := fun X hX => sw_cellL hX rfl)) .nil fun v2_rim => ?_
    exact bm_nil (s := v2_rim) Weak.refl
  · refine bm_asg 1 (gm_set 1 rfl rfl (em_lc (blkF_of ["table", "left", "result", "rim", "p"] (defScope s_rims).names rfl rfl (by decide +kernel) : BlkF _ _ [("p", 4)] [false, false, false, true, true] [false, false, false, false, true] _) rfl (im_seq (em_var 1 rfl rfl rfl)) (tg_name 4 rfl rfl) (fun v6_p => .inl (⟨_, _, _, rfl, ifm_one (tm_cmp ok_ni rm_mem (em_var 4 rfl rfl rfl) (em_var 3 rfl rfl rfl) (by with_unfolding_all rfl)), em_var 4 rfl rfl rfl, rfl⟩))) (hs := fun X hX => sw_cellL hX rfl)) .nil fun v5_left => ?_
    exact bm_nil (s := v5_left) Weak.refl
abbrev s_law_k10 : Stmt := topS 41
theorem sc_law_k10 : FnScope ["_law_script", "_law_pool_here", "_law_posts", "_law_turns_here", "_law_table", "_law_group", "_law_k", "_law_due", "_law_rim", "_law_p", "_law_told"] ["_law_script"] (defScope s_law_k10) := ⟨rfl, rfl, rfl, by decide +kernel, rfl, by decide +kernel, by decide +kernel⟩
theorem ok_law10 {G : GG} {f : Addr} {fd : FuncData} {T : List (Addr × Str)} (Fn : Fun G.K "law" "law" s_law_k10 f fd) (B : Bi G) (k_l_draw : Kn G 7 "_law_draw" m_l_draw) (k_l_letters : Kn G 7 "_law_letters" m_l_letters) (k_l_nested : Kn G 7 "_law_nested" m_l_nested) (k_l_pool : Kn G 7 "_law_pool" m_l_pool) (k_l_round : Kn G 7 "_law_round" m_l_round) (k_l_turns : Kn G 7 "_law_turns" m_l_turns) (mk_Table : MkK G 7 1 "Table" m_Table___init)
    (k_rims : KnSp G 5 "rims" (spRims G T)) (tn_list : TyN G "list" [("NoneType", false), ("bool", false), ("int", false), ("str", false), ("list", true), ("tuple", false)] [(1, false)]) (tn_int : TyN G "int" [("NoneType", false), ("bool", true), ("int", true), ("str", false), ("list", false), ("tuple", false)] [(1, false)]) (tn_bool : TyN G "bool" [("NoneType", false), ("bool", true), ("int", false), ("str", false), ("list", false), ("tuple", false)] [(1, false)]) :
    FnOk G.P G.w G.K G.mg G.base (L2.CX G.P G.w) 8 f fd ["_law_script"] (spLaw10 G.K T) := by
  refine Fun.okX Fn sc_law_k10 (fun vs H Q E h => ?_) (fun cdv A outer s H vs Q E hr h => ?_)
  · obtain ⟨a, ns, rfl, _⟩ := h
    rfl
  obtain ⟨a, ns, rfl, hS, hT, hL, po⟩ := h
  obtain ⟨dT, L, rows, hc, hL0, hR, hz, hrow⟩ := hL.ex
  have hX : ((mkF G sc_law_k10 [true, true, true, true, true, true, true, true, true, false, true] _ (by decide +kernel) rfl 7 "law" f cdv A outer s H E hr)).Xs (cxOf (L2.CX G.P G.w) G.P G.w G.K G.mg G.base ["_law_script", "_law_pool_here", "_law_posts", "_law_turns_here", "_law_table", "_law_group", "_law_k", "_law_due", "_law_rim", "_law_p", "_law_told"] "law" (defScope s_law_k10) f cdv A outer s H E) := rfl
  have h1 : BM (mkF G sc_law_k10 [true, true, true, true, true, true, true, true, true, false, true] _ (by decide +kernel) rfl 7 "law" f cdv A outer s H E hr) ((defBody s_law_k10).take 7) [.val (.scr ns), .unk, .unk, .unk, .unk, .unk, .unk, .unk, .unk, .unk, .unk] ((c_pre10 (.scr ns)).out (fun _ => []) fun s => g10 s.1 s.2.1 s.2.2 .unk .unk) := by
    unfold c_pre10
    refine bm_lit [.val (.scr ns), .unk, .unk, .unk, .unk, .unk, .unk, .unk, .unk, .unk, .unk] rfl ?_
    refine bm_asg 1 (gm_set 1 rfl rfl (em_call k_l_pool rfl (by rfl) (am_cons (em_var 0 rfl rfl rfl) am_nil))) .nil fun v1_pool_here => ?_
    refine bm_lit [.val (.scr ns), .val v1_pool_here, .unk, .unk, .unk, .unk, .unk, .unk, .unk, .unk, .unk] rfl ?_
    refine bm_asg 2 (gm_set 2 rfl rfl (em_add em_int (em_mod (em_add (em_call k_l_draw rfl (by rfl) (am_cons (em_var 1 rfl rfl rfl) (am_cons em_int (am_cons em_int am_nil)))) em_int) em_int))) .nil fun v2_posts => ?_
    refine bm_lit [.val (.scr ns), .val v1_pool_here, .val v2_posts, .unk, .unk, .unk, .unk, .unk, .unk, .unk, .unk] rfl ?_
    refine bm_asg 3 (gm_set 3 rfl rfl (em_call k_l_turns rfl (by rfl) (am_cons (em_call k_l_nested rfl (by rfl) (am_cons (em_var 1 rfl rfl rfl) (am_cons em_int (am_cons (em_var 2 rfl rfl rfl) (am_cons (em_cmp ok_eq rm_eq (em_call k_l_draw rfl (by rfl) (am_cons (em_var 1 rfl rfl rfl) (am_cons em_int (am_cons em_int am_nil)))) em_int (nomark _)) am_nil))))) am_nil))) .nil fun v3_turns_here => ?_
    refine bm_lit [.val (.scr ns), .val v1_pool_here, .val v2_posts, .val v3_turns_here, .unk, .unk, .unk, .unk, .unk, .unk, .unk] rfl ?_
    refine bm_asg 4 (gm_set 4 rfl rfl (em_make mk_Table rfl (by rfl) (am_cons (em_call k_l_letters rfl (by rfl) (am_cons (em_var 3 rfl rfl rfl) (am_cons (em_var 2 rfl rfl rfl) am_nil))) am_nil))) .nil fun v4_table => ?_
    refine bm_lit [.val (.scr ns), .val v1_pool_here, .val v2_posts, .val v3_turns_here, .val v4_table, .unk, .unk, .unk, .unk, .unk, .unk] rfl ?_
    refine bm_asg 5 (gm_lc 5 rfl  (blkF_of ["_law_script", "_law_pool_here", "_law_posts", "_law_turns_here", "_law_table", "_law_group", "_law_k", "_law_due", "_law_rim", "_law_p", "_law_told"] (defScope s_law_k10).names rfl rfl (by decide +kernel) : BlkF _ _ [("_law_k", 6)] [false, false, false, false, false, false, true, false, false, false, false] [false, false, false, false, false, false, true, false, false, false, false] _) rfl (im_range1 (by rfl) B.f_range (am_cons (em_var 2 rfl rfl rfl) am_nil)) (tg_name 6 rfl rfl) (fun v6_k => .inl (⟨_, _, _, rfl, ifm_nil, em_var 6 rfl rfl rfl, rfl⟩)) rfl rfl rfl (by rfl)) .nil fun v5_group => ?_
    refine bm_lit [.val (.scr ns), .val v1_pool_here, .val v2_posts, .val v3_turns_here, .val v4_table, .val v5_group, .unk, .unk, .unk, .unk, .unk] rfl ?_
    refine bm_asgO 7 (gf_set 7 rfl rfl (fe_lst (am_nil))) .nil fun v7_due => ?_
    refine bm_lit [.val (.scr ns), .val v1_pool_here, .val v2_posts, .val v3_turns_here, .val v4_table, .val v5_group, .unk, .own v7_due, .unk, .unk, .unk] rfl ?_
    refine bm_for (T := Unit) (fj := (fun (v8_j : D × D) => [.val (.scr ns), .val v1_pool_here, .val v2_posts, .val v3_turns_here, .val v4_table, .val v8_j.1, .unk, .own v8_j.2, .unk, .unk, .unk])) (j0 := (v5_group, v7_due)) (im_range1 (by rfl) B.f_range (am_cons (em_var 2 rfl rfl rfl) am_nil)) .nil (.same (.same (.same (.same (.same (.same (.unk (.same (.unk (.unk (.unk .nil))))))))))) rfl (tg_name 6 rfl rfl) (fun v9_k v8_j => ?_) (fun v8_j => ?_) rfl
    · skip
      refine .inl ⟨_, rfl, ?_⟩
      refine bm_lit [.val (.scr ns), .val v1_pool_here, .val v2_posts, .val v3_turns_here, .val v4_table, .val v8_j.1, .val v9_k, .own v8_j.2, .unk, .unk, .unk] rfl ?_
      refine bm_if (fj := (fun (v10_j : D × D) => [.val (.scr ns), .val v1_pool_here, .val v2_posts, .val v3_turns_here, .val v4_table, .val v10_j.1, .val v9_k, .own v10_j.2, .unk, .unk, .unk])) (tm_cmp ok_ne rm_ne (em_var 5 rfl rfl rfl) (em_lst (am_nil)) (nomark _)) .nil ?_ ?_ (fun v10_j => ?_)
      · skip
        refine bm_lit [.val (.scr ns), .val v1_pool_here, .val v2_posts, .val v3_turns_here, .val v4_table, .val v8_j.1, .val v9_k, .own v8_j.2, .unk, .unk, .unk] rfl ?_
        refine bm_asg 8 (gm_set 8 rfl rfl (em_call k_l_round rfl (by rfl) (am_cons (em_var 3 rfl rfl rfl) (am_cons (em_var 5 rfl rfl rfl) am_nil)))) .nil fun v11_rim => ?_
        refine bm_lit [.val (.scr ns), .val v1_pool_here, .val v2_posts, .val v3_turns_here, .val v4_table, .val v8_j.1, .val v9_k, .own v8_j.2, .val v11_rim, .unk, .unk] rfl ?_
        refine bm_app 7 rfl (em_var 8 rfl rfl rfl) .nil (fun v12_due => ?_) (fun t q Y hY => pe_bm PySem.F.plainAttrs_list PySem.F.slot_list_append PySem.F.type_list_append mt_append (pvar 7 rfl rfl Y hY) (pa_cons (q Y hY) pa_nil))
        refine bm_lit [.val (.scr ns), .val v1_pool_here, .val v2_posts, .val v3_turns_here, .val v4_table, .val v8_j.1, .val v9_k, .own v12_due, .val v11_rim, .unk, .unk] rfl ?_
        refine bm_asg 5 (gm_lc 5 rfl  (blkF_of ["_law_script", "_law_pool_here", "_law_posts", "_law_turns_here", "_law_table", "_law_group", "_law_k", "_law_due", "_law_rim", "_law_p", "_law_told"] (defScope s_law_k10).names rfl rfl (by decide +kernel) : BlkF _ _ [("_law_p", 9)] [false, false, false, false, false, false, false, false, true, true, false] [false, false, false, false, false, false, false, false, false, true, false] _) rfl (im_seq (em_var 5 rfl rfl rfl)) (tg_name 9 rfl rfl) (fun v14_p => .inl (⟨_, _, _, rfl, ifm_one (tm_cmp ok_ni rm_mem (em_var 9 rfl rfl rfl) (em_var 8 rfl rfl rfl) (by with_unfolding_all rfl)), em_var 9 rfl rfl rfl, rfl⟩)) rfl rfl rfl (by rfl)) .nil fun v13_group => ?_
        exact bm_nil (s := (v13_group, v12_due)) (.same (.same (.same (.same (.same (.same (.same (.same (.unk (.unk (.unk .nil)))))))))))
      · skip
        exact bm_nil (s := (v8_j.1, v8_j.2)) (.same (.same (.same (.same (.same (.same (.same (.same (.unk (.unk (.unk .nil)))))))))))
      exact bm_nil (s := (v10_j.1, v10_j.2)) (.same (.same (.same (.same (.same (.same (.unk (.same (.unk (.unk (.unk .nil)))))))))))
    refine bm_lit [.val (.scr ns), .val v1_pool_here, .val v2_posts, .val v3_turns_here, .val v4_table, .val v8_j.1, .unk, .own v8_j.2, .unk, .unk, .unk] rfl ?_
    refine bm_give 7 rfl ?_
    exact bm_nil (s := (v4_table, v8_j.1, v8_j.2)) (.unk (.unk (.unk (.unk (.same (.same (.same (.same (.same (.same (.same .nil)))))))))))
  
  have hr' : PSs (cxOf (L2.CX G.P G.w) G.P G.w G.K G.mg G.base ["_law_script", "_law_pool_here", "_law_posts", "_law_turns_here", "_law_table", "_law_group", "_law_k", "_law_due", "_law_rim", "_law_p", "_law_told"] "law" (defScope s_law_k10) f cdv A outer s H E) ((defBody s_law_k10).drop 7) _ := ps_tail10 (F := (mkF G sc_law_k10 [true, true, true, true, true, true, true, true, true, false, true] _ (by decide +kernel) rfl 7 "law" f cdv A outer s H E hr)) hX k_rims (show 5 ≤ 7 by decide) rfl rfl rfl rfl rfl rfl rfl
  obtain ⟨t, ht, hq⟩ := run_app hX (sts := defBody s_law_k10) rfl h1 hr'
  refine ⟨t, ht, hq H H _ _ H H (Grow.refl (Same.refl _)) (starts (Same.refl _) (.cons (.scr hS) .nil) (Nat.le_of_ble_eq_true rfl)) ?_⟩
  rw [hc]
  intro σ S1 H1 g1 hh
  have hh' : Holds G H1 σ (nt S1) H1 (g10 dT (.lst []) (rowsD rows) .unk .unk) := hh.move (fun s hs => by
    unfold g10 at hs
    simp only [List.mem_cons, List.not_mem_nil, or_false] at hs
    rcases hs with h | h | h | h | h | h | h | h | h | h | h <;> simp [h]) (fun v d r => r.nt) (nt_sub.trans g1.sub) (Same.refl _)
  refine tail10 ?_ ?_ hL0 hR (by rw [sizeLine_eq]; omega) ?_ (fun as => ?_) (fun q hq => ?_) ?_ ?_ rm_eq (eq_same rowsD_std.1 rowsD_std.2).1 hh' nt_no (hT.ext g1.h) po
  · exact am_cons (em_var 4 rfl rfl rfl) am_nil
  · exact am_cons (em_var 4 rfl rfl rfl) am_nil
  · rw [← cond10 hz]
    exact tm_w (wm_or (tm_not (tm_val (em_isi tn_list (by rfl) B.f_isinstance (by rfl) (em_var 10 rfl rfl rfl)) (fun _ _ _ => rfl))) (wm_or (tm_cmp ok_ne rm_ne (em_var 10 rfl rfl rfl) (em_var 7 rfl rfl rfl) (nomark _)) (wm_or1 (tm_not (tm_val (em_all rfl (by rfl) B.f_all (am_cons (em_lc (blkF_of ["_law_script", "_law_pool_here", "_law_posts", "_law_turns_here", "_law_table", "_law_group", "_law_k", "_law_due", "_law_rim", "_law_p", "_law_told"] (defScope s_law_k10).names rfl rfl (by decide +kernel) : BlkF _ _ [("_law_rim", 8)] [false, false, false, false, false, false, false, false, true, false, false] [false, false, false, false, false, false, false, false, true, false, false] _) rfl (im_seq (em_var 10 rfl rfl rfl)) (tg_name 8 rfl rfl) (fun v3_rim => .inl (⟨_, _, _, rfl, ifm_nil, em_isi tn_list (by rfl) B.f_isinstance (by rfl) (em_var 8 rfl rfl rfl), rfl⟩))) am_nil)) (fun _ _ _ => rfl))))))
  · show IM _ _ _ _ (b1 pyItems (.ok (.lst (as.map D.adr))))
    exact im_seq (em_var 10 rfl rfl rfl)
  · rw [← cond10r (hrow q hq)]
    exact tm_not (tm_val (em_all rfl (by rfl) B.f_all (am_cons (em_lc (blkF_of ["_law_script", "_law_pool_here", "_law_posts", "_law_turns_here", "_law_table", "_law_group", "_law_k", "_law_due", "_law_rim", "_law_p", "_law_told"] (defScope s_law_k10).names rfl rfl (by decide +kernel) : BlkF _ _ [("_law_p", 9)] [false, false, false, false, false, false, false, false, false, true, false] [false, false, false, false, false, false, false, false, false, true, false] _) rfl (im_seq (em_var 8 rfl rfl rfl)) (tg_name 9 rfl rfl) (fun v2_p => .inl (⟨_, _, _, rfl, ifm_nil, em_and (em_isi tn_int (by rfl) B.f_isinstance (by rfl) (em_var 9 rfl rfl rfl)) (em_one (em_not (em_isi tn_bool (by rfl) B.f_isinstance (by rfl) (em_var 9 rfl rfl rfl)))), rfl⟩))) am_nil)) (fun _ _ _ => rfl))
  · exact em_var 7 rfl rfl rfl
  · rw [← gr10]
    exact em_one (em_cmp ok_eq rm_eq (em_var 5 rfl rfl rfl) (em_lst (am_nil)) (nomark _))
abbrev theG (l : PySem.W.OpenLaw) (w : World) (K : PySem.W.Frag) (mg : Str → Option Value) (base : Heap) (C_Table E_PostError E_BadInput E_Quarrel E_Blocked : Addr) : GG := ⟨l.prog, w, K, mg, base, fun i => match i with | 1 => C_Table | _ => 0, fun i => match i with | 0 => .ref E_PostError | 1 => .ref E_BadInput | 2 => .ref E_PostError | 3 => .ref E_Quarrel | 4 => .ref E_Blocked | 5 => .ref E_PostError | _ => .none⟩
theorem all_mk {l : PySem.W.OpenLaw} {w : World} {K : PySem.W.Frag} {h : Heap} {mg : Str → Option Value} {fa C_Table E_PostError E_BadInput E_Quarrel E_Blocked f_position f_l_draw f_l_letters f_l_cross f_l_pool f_l_next f_threes f_turn_of f_l_free f_l_round f_l_turns f_is_inside f_l_nested f_breaks_five f_in_round_order f_on_rim f_last_breach f_breach f_rims f_Table___init A_SIZES fx_Quarrel cc_Quarrel cda_Quarrel N_Quarrel f_law_k10 : Addr} {oc_position : Value} {od_position : Option Addr} {an_position : Option Addr} {sl_position : Array (Option Value)} {kV_position dc_position pm_position cd_position ct_position : Value} {oc_l_draw : Value} {od_l_draw : Option Addr} {an_l_draw : Option Addr} {sl_l_draw : Array (Option Value)} {kV_l_draw dc_l_draw pm_l_draw cd_l_draw ct_l_draw : Value} {oc_l_letters : Value} {od_l_letters : Option Addr} {an_l_letters : Option Addr} {sl_l_letters : Array (Option Value)} {kV_l_letters dc_l_letters pm_l_letters cd_l_letters ct_l_letters : Value} {oc_l_cross : Value} {od_l_cross : Option Addr} {an_l_cross : Option Addr} {sl_l_cross : Array (Option Value)} {kV_l_cross dc_l_cross pm_l_cross cd_l_cross ct_l_cross : Value} {oc_l_pool : Value} {od_l_pool : Option Addr} {an_l_pool : Option Addr} {sl_l_pool : Array (Option Value)} {kV_l_pool dc_l_pool pm_l_pool cd_l_pool ct_l_pool : Value} {oc_l_next : Value} {od_l_next : Option Addr} {an_l_next : Option Addr} {sl_l_next : Array (Option Value)} {kV_l_next dc_l_next pm_l_next cd_l_next ct_l_next : Value} {oc_threes : Value} {od_threes : Option Addr} {an_threes : Option Addr} {sl_threes : Array (Option Value)} {kV_threes dc_threes pm_threes cd_threes ct_threes : Value} {oc_turn_of : Value} {od_turn_of : Option Addr} {an_turn_of : Option Addr} {sl_turn_of : Array (Option Value)} {kV_turn_of dc_turn_of pm_turn_of cd_turn_of ct_turn_of : Value} {oc_l_free : Value} {od_l_free : Option Addr} {an_l_free : Option Addr} {sl_l_free : Array (Option Value)} {kV_l_free dc_l_free pm_l_free cd_l_free ct_l_free : Value} {oc_l_round : Value} {od_l_round : Option Addr} {an_l_round : Option Addr} {sl_l_round : Array (Option Value)} {kV_l_round dc_l_round pm_l_round cd_l_round ct_l_round : Value} {oc_l_turns : Value} {od_l_turns : Option Addr} {an_l_turns : Option Addr} {sl_l_turns : Array (Option Value)} {kV_l_turns dc_l_turns pm_l_turns cd_l_turns ct_l_turns : Value} {oc_is_inside : Value} {od_is_inside : Option Addr} {an_is_inside : Option Addr} {sl_is_inside : Array (Option Value)} {kV_is_inside dc_is_inside pm_is_inside cd_is_inside ct_is_inside : Value} {oc_l_nested : Value} {od_l_nested : Option Addr} {an_l_nested : Option Addr} {sl_l_nested : Array (Option Value)} {kV_l_nested dc_l_nested pm_l_nested cd_l_nested ct_l_nested : Value} {oc_breaks_five : Value} {od_breaks_five : Option Addr} {an_breaks_five : Option Addr} {sl_breaks_five : Array (Option Value)} {kV_breaks_five dc_breaks_five pm_breaks_five cd_breaks_five ct_breaks_five : Value} {oc_in_round_order : Value} {od_in_round_order : Option Addr} {an_in_round_order : Option Addr} {sl_in_round_order : Array (Option Value)} {kV_in_round_order dc_in_round_order pm_in_round_order ct_in_round_order : Value} {cc10 P10 : Addr} {oc_on_rim : Value} {od_on_rim : Option Addr} {an_on_rim : Option Addr} {sl_on_rim : Array (Option Value)} {kV_on_rim dc_on_rim pm_on_rim cd_on_rim ct_on_rim : Value} {oc_last_breach : Value} {od_last_breach : Option Addr} {an_last_breach : Option Addr} {sl_last_breach : Array (Option Value)} {kV_last_breach dc_last_breach pm_last_breach cd_last_breach ct_last_breach : Value} {oc_breach : Value} {od_breach : Option Addr} {an_breach : Option Addr} {sl_breach : Array (Option Value)} {kV_breach dc_breach pm_breach cd_breach ct_breach : Value} {oc_rims : Value} {od_rims : Option Addr} {an_rims : Option Addr} {sl_rims : Array (Option Value)} {kV_rims dc_rims pm_rims cd_rims ct_rims : Value} {oc_Table___init : Value} {od_Table___init : Option Addr} {an_Table___init : Option Addr} {sl_Table___init : Array (Option Value)} {kV_Table___init dc_Table___init pm_Table___init cd_Table___init ct_Table___init : Value} {nm_xQuarrel q_xQuarrel : Str} {bs_xQuarrel bm_xQuarrel sub_xQuarrel : List Value} {sn_xQuarrel : List Str} {ab_xQuarrel : Bool} {col_xQuarrel : Option Bool} {dd_xQuarrel : Option Addr} {k0_xQuarrel k1_xQuarrel k2_xQuarrel k3_xQuarrel k5_xQuarrel : Option Value} {oc_xQuarrel kV_xQuarrel dc_xQuarrel pm_xQuarrel ct_xQuarrel : Value} {od_xQuarrel an_xQuarrel : Option Addr} {sl_xQuarrel : Array (Option Value)} {oc_law_k10 : Value} {od_law_k10 : Option Addr} {an_law_k10 : Option Addr} {sl_law_k10 : Array (Option Value)} {kV_law_k10 dc_law_k10 pm_law_k10 cd_law_k10 ct_law_k10 : Value} (X : K.In h) (Gn : h.Ns mainGlobals mg) (hfa : mg "law" = some (.ref fa)) (hm : ∀ ns : List Int, ns.length ≤ 63 → (∀ z ∈ ns, Builtin.Int.intBits z ≤ 1048576) → Law10 ns)
    (a_C_Table : PySem.W.nsIn K mainGlobals "Table" = some (some (.ref C_Table)))
    (i_C_Table : insB K C_Table = true)
    (a_E_PostError : PySem.W.nsIn K mainGlobals "PostError" = some (some (.ref E_PostError)))
    (a_E_BadInput : PySem.W.nsIn K mainGlobals "BadInput" = some (some (.ref E_BadInput)))
    (a_E_Quarrel : PySem.W.nsIn K mainGlobals "Quarrel" = some (some (.ref E_Quarrel)))
    (a_E_Blocked : PySem.W.nsIn K mainGlobals "Blocked" = some (some (.ref E_Blocked)))
    (z_len : PySem.W.nsIn K mainGlobals "len" = some none)
    (z_int : PySem.W.nsIn K mainGlobals "int" = some none)
    (z_range : PySem.W.nsIn K mainGlobals "range" = some none)
    (z_list : PySem.W.nsIn K mainGlobals "list" = some none)
    (z_isinstance : PySem.W.nsIn K mainGlobals "isinstance" = some none)
    (z_enumerate : PySem.W.nsIn K mainGlobals "enumerate" = some none)
    (z_sorted : PySem.W.nsIn K mainGlobals "sorted" = some none)
    (z_str : PySem.W.nsIn K mainGlobals "str" = some none)
    (z_tuple : PySem.W.nsIn K mainGlobals "tuple" = some none)
    (z_max : PySem.W.nsIn K mainGlobals "max" = some none)
    (z_min : PySem.W.nsIn K mainGlobals "min" = some none)
    (z_sum : PySem.W.nsIn K mainGlobals "sum" = some none)
    (z_all : PySem.W.nsIn K mainGlobals "all" = some none)
    (z_zip : PySem.W.nsIn K mainGlobals "zip" = some none)
    (z_iter : PySem.W.nsIn K mainGlobals "iter" = some none)
    (z_bool : PySem.W.nsIn K mainGlobals "bool" = some none)
    (z_ValueError : PySem.W.nsIn K mainGlobals "ValueError" = some none)
    (a_position : PySem.W.nsIn K mainGlobals "position" = some (some (.ref f_position)))
    (l_position : K.lookup f_position = some ⟨oc_position, od_position, .func (PySem.W.fnOf "position" "position" (defArgs s_position) (defBody s_position) (defScope s_position) .none kV_position dc_position pm_position an_position cd_position ct_position), sl_position⟩)
    (c_position_ : PySem.W.codeIn K cd_position "position" = true)
    (h_position : PySem.W.keepIn K (.ref f_position) = true)
    (a_l_draw : PySem.W.nsIn K mainGlobals "_law_draw" = some (some (.ref f_l_draw)))
    (l_l_draw : K.lookup f_l_draw = some ⟨oc_l_draw, od_l_draw, .func (PySem.W.fnOf "_law_draw" "_law_draw" (defArgs s_l_draw) (defBody s_l_draw) (defScope s_l_draw) .none kV_l_draw dc_l_draw pm_l_draw an_l_draw cd_l_draw ct_l_draw), sl_l_draw⟩)
    (c_l_draw_ : PySem.W.codeIn K cd_l_draw "_law_draw" = true)
    (h_l_draw : PySem.W.keepIn K (.ref f_l_draw) = true)
    (a_l_letters : PySem.W.nsIn K mainGlobals "_law_letters" = some (some (.ref f_l_letters)))
    (l_l_letters : K.lookup f_l_letters = some ⟨oc_l_letters, od_l_letters, .func (PySem.W.fnOf "_law_letters" "_law_letters" (defArgs s_l_letters) (defBody s_l_letters) (defScope s_l_letters) .none kV_l_letters dc_l_letters pm_l_letters an_l_letters cd_l_letters ct_l_letters), sl_l_letters⟩)
    (c_l_letters_ : PySem.W.codeIn K cd_l_letters "_law_letters" = true)
    (h_l_letters : PySem.W.keepIn K (.ref f_l_letters) = true)
    (a_l_cross : PySem.W.nsIn K mainGlobals "_law_cross" = some (some (.ref f_l_cross)))
    (l_l_cross : K.lookup f_l_cross = some ⟨oc_l_cross, od_l_cross, .func (PySem.W.fnOf "_law_cross" "_law_cross" (defArgs s_l_cross) (defBody s_l_cross) (defScope s_l_cross) .none kV_l_cross dc_l_cross pm_l_cross an_l_cross cd_l_cross ct_l_cross), sl_l_cross⟩)
    (c_l_cross_ : PySem.W.codeIn K cd_l_cross "_law_cross" = true)
    (h_l_cross : PySem.W.keepIn K (.ref f_l_cross) = true)
    (a_l_pool : PySem.W.nsIn K mainGlobals "_law_pool" = some (some (.ref f_l_pool)))
    (l_l_pool : K.lookup f_l_pool = some ⟨oc_l_pool, od_l_pool, .func (PySem.W.fnOf "_law_pool" "_law_pool" (defArgs s_l_pool) (defBody s_l_pool) (defScope s_l_pool) .none kV_l_pool dc_l_pool pm_l_pool an_l_pool cd_l_pool ct_l_pool), sl_l_pool⟩)
    (c_l_pool_ : PySem.W.codeIn K cd_l_pool "_law_pool" = true)
    (h_l_pool : PySem.W.keepIn K (.ref f_l_pool) = true)
    (a_l_next : PySem.W.nsIn K mainGlobals "_law_next" = some (some (.ref f_l_next)))
    (l_l_next : K.lookup f_l_next = some ⟨oc_l_next, od_l_next, .func (PySem.W.fnOf "_law_next" "_law_next" (defArgs s_l_next) (defBody s_l_next) (defScope s_l_next) .none kV_l_next dc_l_next pm_l_next an_l_next cd_l_next ct_l_next), sl_l_next⟩)
    (c_l_next_ : PySem.W.codeIn K cd_l_next "_law_next" = true)
    (h_l_next : PySem.W.keepIn K (.ref f_l_next) = true)
    (a_threes : PySem.W.nsIn K mainGlobals "threes" = some (some (.ref f_threes)))
    (l_threes : K.lookup f_threes = some ⟨oc_threes, od_threes, .func (PySem.W.fnOf "threes" "threes" (defArgs s_threes) (defBody s_threes) (defScope s_threes) .none kV_threes dc_threes pm_threes an_threes cd_threes ct_threes), sl_threes⟩)
    (c_threes_ : PySem.W.codeIn K cd_threes "threes" = true)
    (h_threes : PySem.W.keepIn K (.ref f_threes) = true)
    (a_turn_of : PySem.W.nsIn K mainGlobals "turn_of" = some (some (.ref f_turn_of)))
    (l_turn_of : K.lookup f_turn_of = some ⟨oc_turn_of, od_turn_of, .func (PySem.W.fnOf "turn_of" "turn_of" (defArgs s_turn_of) (defBody s_turn_of) (defScope s_turn_of) .none kV_turn_of dc_turn_of pm_turn_of an_turn_of cd_turn_of ct_turn_of), sl_turn_of⟩)
    (c_turn_of_ : PySem.W.codeIn K cd_turn_of "turn_of" = true)
    (h_turn_of : PySem.W.keepIn K (.ref f_turn_of) = true)
    (a_l_free : PySem.W.nsIn K mainGlobals "_law_free" = some (some (.ref f_l_free)))
    (l_l_free : K.lookup f_l_free = some ⟨oc_l_free, od_l_free, .func (PySem.W.fnOf "_law_free" "_law_free" (defArgs s_l_free) (defBody s_l_free) (defScope s_l_free) .none kV_l_free dc_l_free pm_l_free an_l_free cd_l_free ct_l_free), sl_l_free⟩)
    (c_l_free_ : PySem.W.codeIn K cd_l_free "_law_free" = true)
    (h_l_free : PySem.W.keepIn K (.ref f_l_free) = true)
    (a_l_round : PySem.W.nsIn K mainGlobals "_law_round" = some (some (.ref f_l_round)))
    (l_l_round : K.lookup f_l_round = some ⟨oc_l_round, od_l_round, .func (PySem.W.fnOf "_law_round" "_law_round" (defArgs s_l_round) (defBody s_l_round) (defScope s_l_round) .none kV_l_round dc_l_round pm_l_round an_l_round cd_l_round ct_l_round), sl_l_round⟩)
    (c_l_round_ : PySem.W.codeIn K cd_l_round "_law_round" = true)
    (h_l_round : PySem.W.keepIn K (.ref f_l_round) = true)
    (a_l_turns : PySem.W.nsIn K mainGlobals "_law_turns" = some (some (.ref f_l_turns)))
    (l_l_turns : K.lookup f_l_turns = some ⟨oc_l_turns, od_l_turns, .func (PySem.W.fnOf "_law_turns" "_law_turns" (defArgs s_l_turns) (defBody s_l_turns) (defScope s_l_turns) .none kV_l_turns dc_l_turns pm_l_turns an_l_turns cd_l_turns ct_l_turns), sl_l_turns⟩)
    (c_l_turns_ : PySem.W.codeIn K cd_l_turns "_law_turns" = true)
    (h_l_turns : PySem.W.keepIn K (.ref f_l_turns) = true)
    (a_is_inside : PySem.W.nsIn K mainGlobals "is_inside" = some (some (.ref f_is_inside)))
    (l_is_inside : K.lookup f_is_inside = some ⟨oc_is_inside, od_is_inside, .func (PySem.W.fnOf "is_inside" "is_inside" (defArgs s_is_inside) (defBody s_is_inside) (defScope s_is_inside) .none kV_is_inside dc_is_inside pm_is_inside an_is_inside cd_is_inside ct_is_inside), sl_is_inside⟩)
    (c_is_inside_ : PySem.W.codeIn K cd_is_inside "is_inside" = true)
    (h_is_inside : PySem.W.keepIn K (.ref f_is_inside) = true)
    (a_l_nested : PySem.W.nsIn K mainGlobals "_law_nested" = some (some (.ref f_l_nested)))
    (l_l_nested : K.lookup f_l_nested = some ⟨oc_l_nested, od_l_nested, .func (PySem.W.fnOf "_law_nested" "_law_nested" (defArgs s_l_nested) (defBody s_l_nested) (defScope s_l_nested) .none kV_l_nested dc_l_nested pm_l_nested an_l_nested cd_l_nested ct_l_nested), sl_l_nested⟩)
    (c_l_nested_ : PySem.W.codeIn K cd_l_nested "_law_nested" = true)
    (h_l_nested : PySem.W.keepIn K (.ref f_l_nested) = true)
    (a_breaks_five : PySem.W.nsIn K mainGlobals "breaks_five" = some (some (.ref f_breaks_five)))
    (l_breaks_five : K.lookup f_breaks_five = some ⟨oc_breaks_five, od_breaks_five, .func (PySem.W.fnOf "breaks_five" "breaks_five" (defArgs s_breaks_five) (defBody s_breaks_five) (defScope s_breaks_five) .none kV_breaks_five dc_breaks_five pm_breaks_five an_breaks_five cd_breaks_five ct_breaks_five), sl_breaks_five⟩)
    (c_breaks_five_ : PySem.W.codeIn K cd_breaks_five "breaks_five" = true)
    (h_breaks_five : PySem.W.keepIn K (.ref f_breaks_five) = true)
    (a_in_round_order : PySem.W.nsIn K mainGlobals "in_round_order" = some (some (.ref f_in_round_order)))
    (l_in_round_order : K.lookup f_in_round_order = some ⟨oc_in_round_order, od_in_round_order, .func (PySem.W.fnOf "in_round_order" "in_round_order" (defArgs s_in_round_order) (defBody s_in_round_order) (defScope s_in_round_order) .none kV_in_round_order dc_in_round_order pm_in_round_order an_in_round_order (.ref cc10) ct_in_round_order), sl_in_round_order⟩)
    (c_in_round_order_ : PySem.W.codeIn K (.ref cc10) "in_round_order" = true)
    (h_in_round_order : PySem.W.keepIn K (.ref f_in_round_order) = true)
    (a_on_rim : PySem.W.nsIn K mainGlobals "on_rim" = some (some (.ref f_on_rim)))
    (l_on_rim : K.lookup f_on_rim = some ⟨oc_on_rim, od_on_rim, .func (PySem.W.fnOf "on_rim" "on_rim" (defArgs s_on_rim) (defBody s_on_rim) (defScope s_on_rim) .none kV_on_rim dc_on_rim pm_on_rim an_on_rim cd_on_rim ct_on_rim), sl_on_rim⟩)
    (c_on_rim_ : PySem.W.codeIn K cd_on_rim "on_rim" = true)
    (h_on_rim : PySem.W.keepIn K (.ref f_on_rim) = true)
    (a_last_breach : PySem.W.nsIn K mainGlobals "last_breach" = some (some (.ref f_last_breach)))
    (l_last_breach : K.lookup f_last_breach = some ⟨oc_last_breach, od_last_breach, .func (PySem.W.fnOf "last_breach" "last_breach" (defArgs s_last_breach) (defBody s_last_breach) (defScope s_last_breach) .none kV_last_breach dc_last_breach pm_last_breach an_last_breach cd_last_breach ct_last_breach), sl_last_breach⟩)
    (c_last_breach_ : PySem.W.codeIn K cd_last_breach "last_breach" = true)
    (h_last_breach : PySem.W.keepIn K (.ref f_last_breach) = true)
    (a_breach : PySem.W.nsIn K mainGlobals "breach" = some (some (.ref f_breach)))
    (l_breach : K.lookup f_breach = some ⟨oc_breach, od_breach, .func (PySem.W.fnOf "breach" "breach" (defArgs s_breach) (defBody s_breach) (defScope s_breach) .none kV_breach dc_breach pm_breach an_breach cd_breach ct_breach), sl_breach⟩)
    (c_breach_ : PySem.W.codeIn K cd_breach "breach" = true)
    (h_breach : PySem.W.keepIn K (.ref f_breach) = true)
    (a_rims : PySem.W.nsIn K mainGlobals "rims" = some (some (.ref f_rims)))
    (l_rims : K.lookup f_rims = some ⟨oc_rims, od_rims, .func (PySem.W.fnOf "rims" "rims" (defArgs s_rims) (defBody s_rims) (defScope s_rims) .none kV_rims dc_rims pm_rims an_rims cd_rims ct_rims), sl_rims⟩)
    (c_rims_ : PySem.W.codeIn K cd_rims "rims" = true)
    (h_rims : PySem.W.keepIn K (.ref f_rims) = true)
    (n_1_posts : PySem.W.findIn K (.ref C_Table) "posts" = some none)
    (n_1_letters : PySem.W.findIn K (.ref C_Table) "letters" = some none)
    (a_Table___init : PySem.W.findIn K (.ref C_Table) "__init__" = some (some (.ref f_Table___init)))
    (i_Table___init : PySem.W.isFn K (.ref f_Table___init) = true)
    (j_Table___init : PySem.W.fnIn K f_Table___init = true)
    (l_Table___init : K.lookup f_Table___init = some ⟨oc_Table___init, od_Table___init, .func (PySem.W.fnOf "__init__" "Table.__init__" (defArgs s_Table___init) (defBody s_Table___init) (defScope s_Table___init) .none kV_Table___init dc_Table___init pm_Table___init an_Table___init cd_Table___init ct_Table___init), sl_Table___init⟩)
    (c_Table___init_ : PySem.W.codeIn K cd_Table___init "Table.__init__" = true)
    (h_Table___init : PySem.W.keepIn K (.ref f_Table___init) = true)
    (kt_str : ktB K (fun i => match i with | 1 => C_Table | _ => 0) (.type "str") [("NoneType", false), ("bool", false), ("int", false), ("str", true), ("list", false), ("tuple", false)] [(1, false)] = true)
    (a_K_SIZES : PySem.W.nsIn K mainGlobals "SIZES" = some (some (.ref A_SIZES)))
    (k_K_SIZES : kdOk K A_SIZES [(1, 3), (4, 4), (10, 5), (20, 6), (35, 7), (56, 8)] = true)
    (ol_Quarrel : K.lookup E_Quarrel = some (excClassObj nm_xQuarrel q_xQuarrel E_Quarrel N_Quarrel bs_xQuarrel bm_xQuarrel true sn_xQuarrel sub_xQuarrel ab_xQuarrel col_xQuarrel dd_xQuarrel k0_xQuarrel k1_xQuarrel k2_xQuarrel k3_xQuarrel k5_xQuarrel "ValueError.__new__"))
    (rv_Quarrel : PySem.HandSPX.refsVE bm_xQuarrel = true)
    (ax_Quarrel : PySem.W.findIn K (.ref E_Quarrel) "__init__" = some (some (.ref fx_Quarrel)))
    (lx_Quarrel : K.lookup fx_Quarrel = some ⟨oc_xQuarrel, od_xQuarrel, .func (PySem.W.ksFn "__init__" "Quarrel.__init__" (defArgs (clsS (topS 4) 0)) (defBody (clsS (topS 4) 0)) (defScope (clsS (topS 4) 0)) .none kV_xQuarrel dc_xQuarrel pm_xQuarrel an_xQuarrel (.ref cda_Quarrel) ct_xQuarrel cc_Quarrel), sl_xQuarrel⟩)
    (eb_Quarrel : exiB K l.prog.main.file E_Quarrel cc_Quarrel cda_Quarrel fx_Quarrel "Quarrel.__init__" "posts" = true)
    (z_super : PySem.W.nsIn K mainGlobals "super" = some none)
    (tp_super : (l.prog.main.scope.names.lookup ("super" : Str)).isSome = false)
    (q_BadInput : PySem.W.excIn K E_BadInput [.type "ValueError", .type "Exception", .type "BaseException", .type "object"] "ValueError.__new__" = true)
    (ke_BadInput : PySem.W.keepIn K (.ref E_BadInput) = true)
    (sb_BadInput : PySem.W.subIn K (.ref E_BadInput) (.type "BaseException") = some true)
    (ty_BadInput : PySem.W.typeIn K (.ref E_BadInput) = some (.type "type"))
    (mk0_Table : PySem.W.makesIn K C_Table = true)
    (kc_Table : PySem.W.keepIn K (.ref C_Table) = true)
    (a_law_k10 : PySem.W.nsIn K mainGlobals "law" = some (some (.ref f_law_k10)))
    (l_law_k10 : K.lookup f_law_k10 = some ⟨oc_law_k10, od_law_k10, .func (PySem.W.fnOf "law" "law" (defArgs s_law_k10) (defBody s_law_k10) (defScope s_law_k10) .none kV_law_k10 dc_law_k10 pm_law_k10 an_law_k10 cd_law_k10 ct_law_k10), sl_law_k10⟩)
    (c_law_k10_ : PySem.W.codeIn K cd_law_k10 "law" = true)
    (h_law_k10 : PySem.W.keepIn K (.ref f_law_k10) = true)
    (kt_list : ktB K (fun i => match i with | 1 => C_Table | _ => 0) (.type "list") [("NoneType", false), ("bool", false), ("int", false), ("str", false), ("list", true), ("tuple", false)] [(1, false)] = true)
    (kt_int : ktB K (fun i => match i with | 1 => C_Table | _ => 0) (.type "int") [("NoneType", false), ("bool", true), ("int", true), ("str", false), ("list", false), ("tuple", false)] [(1, false)] = true)
    (kt_bool : ktB K (fun i => match i with | 1 => C_Table | _ => 0) (.type "bool") [("NoneType", false), ("bool", true), ("int", false), ("str", false), ("list", false), ("tuple", false)] [(1, false)] = true)
    (et10 : h.get? P10 = some { cls := .none, data := .fields #[] })
    (hd10 : PySem.W.codeHdIn K cc10 P10 = true)
    (nt10 : K.lookup P10 = none)
    : LamX.LawAtS l w K (L2.CX l.prog w) 8 63 "_law_script" mg fa h := by
  have e := hfa.symm.trans (PySem.W.mg_of X Gn a_law_k10)
  cases e
  refine ⟨PySem.W.fnOf "law" "law" (defArgs s_law_k10) (defBody s_law_k10) (defScope s_law_k10) .none kV_law_k10 dc_law_k10 pm_law_k10 an_law_k10 cd_law_k10 ct_law_k10, [(cc10, P10)], spLaw10 K [(P10, lamQ)], fun p hp => ?_, fun p hp => ?_, fun p hp => ?_, fun s v => .of_eq rfl, fun H a ns h1 h2 h3 h4 => ⟨a, ns, rfl, h4, fun p hp => ?_, hm ns h1 h2, fun _ => rfl⟩, fun base _ _ hTB => ?_⟩
  · rw [List.mem_singleton.mp hp]
    exact et10
  · rw [List.mem_singleton.mp hp]
    exact nt10
  · rw [List.mem_singleton.mp hp]
    exact PySem.W.codeHd_of_K X hd10
  · rw [List.mem_singleton.mp hp]
    exact LamX.TabS.nil (h3 _ (List.mem_singleton.mpr rfl))
  have B : Bi (theG l w K mg base C_Table E_PostError E_BadInput E_Quarrel E_Blocked) := ⟨PySem.W.mg_none_of X Gn z_len, PySem.W.mg_none_of X Gn z_int, PySem.W.mg_none_of X Gn z_range, PySem.W.mg_none_of X Gn z_list, PySem.W.mg_none_of X Gn z_isinstance, PySem.W.mg_none_of X Gn z_enumerate, PySem.W.mg_none_of X Gn z_sorted, PySem.W.mg_none_of X Gn z_str, PySem.W.mg_none_of X Gn z_tuple, PySem.W.mg_none_of X Gn z_max, PySem.W.mg_none_of X Gn z_min, PySem.W.mg_none_of X Gn z_sum, PySem.W.mg_none_of X Gn z_all, PySem.W.mg_none_of X Gn z_zip, PySem.W.mg_none_of X Gn z_iter, PySem.W.mg_none_of X Gn z_bool, PySem.W.mg_none_of X Gn z_ValueError⟩
  have F_position := fun_mk (st := s_position) l_position c_position_ h_position
  have b_position := F_position.binds (ps := ["a", "b", "c"]) fun _ _ _ _ _ _ us hl => (lsx3 hl).elim fun _ h => h.elim fun _ h => h.elim fun _ h => by subst h; rfl
  have o_position := ok_position (G := (theG l w K mg base C_Table E_PostError E_BadInput E_Quarrel E_Blocked)) F_position
  have k_position : Kn (theG l w K mg base C_Table E_PostError E_BadInput E_Quarrel E_Blocked) 1 "position" m_position := kn_mk o_position (PySem.W.mg_of X Gn a_position) h_position b_position
  have F_l_draw := fun_mk (st := s_l_draw) l_l_draw c_l_draw_ h_l_draw
  have b_l_draw := F_l_draw.binds (ps := ["_law_pool_here", "_law_k", "_law_many"]) fun _ _ _ _ _ _ us hl => (lsx3 hl).elim fun _ h => h.elim fun _ h => h.elim fun _ h => by subst h; rfl
  have o_l_draw := ok_l_draw (G := (theG l w K mg base C_Table E_PostError E_BadInput E_Quarrel E_Blocked)) F_l_draw (B := B)
  have k_l_draw : Kn (theG l w K mg base C_Table E_PostError E_BadInput E_Quarrel E_Blocked) 1 "_law_draw" m_l_draw := kn_mk o_l_draw (PySem.W.mg_of X Gn a_l_draw) h_l_draw b_l_draw
  have F_l_letters := fun_mk (st := s_l_letters) l_l_letters c_l_letters_ h_l_letters
  have b_l_letters := F_l_letters.binds (ps := ["_law_turns_here", "_law_posts"]) fun _ _ _ _ _ _ us hl => (lsx2 hl).elim fun _ h => h.elim fun _ h => by subst h; rfl
  have o_l_letters := ok_l_letters (G := (theG l w K mg base C_Table E_PostError E_BadInput E_Quarrel E_Blocked)) F_l_letters (B := B)
  have k_l_letters : Kn (theG l w K mg base C_Table E_PostError E_BadInput E_Quarrel E_Blocked) 1 "_law_letters" m_l_letters := kn_mk o_l_letters (PySem.W.mg_of X Gn a_l_letters) h_l_letters b_l_letters
  have F_l_cross := fun_mk (st := s_l_cross) l_l_cross c_l_cross_ h_l_cross
  have b_l_cross := F_l_cross.binds (ps := ["_law_p", "_law_q", "_law_r"]) fun _ _ _ _ _ _ us hl => (lsx3 hl).elim fun _ h => h.elim fun _ h => h.elim fun _ h => by subst h; rfl
  have o_l_cross := ok_l_cross (G := (theG l w K mg base C_Table E_PostError E_BadInput E_Quarrel E_Blocked)) F_l_cross
  have k_l_cross : Kn (theG l w K mg base C_Table E_PostError E_BadInput E_Quarrel E_Blocked) 1 "_law_cross" m_l_cross := kn_mk o_l_cross (PySem.W.mg_of X Gn a_l_cross) h_l_cross b_l_cross
  have F_l_pool := fun_mk (st := s_l_pool) l_l_pool c_l_pool_ h_l_pool
  have b_l_pool := F_l_pool.binds (ps := ["_law_script"]) fun _ _ _ _ _ _ us hl => (lsx1 hl).elim fun _ h => by subst h; rfl
  have o_l_pool := ok_l_pool (G := (theG l w K mg base C_Table E_PostError E_BadInput E_Quarrel E_Blocked)) F_l_pool (B := B)
  have k_l_pool : Kn (theG l w K mg base C_Table E_PostError E_BadInput E_Quarrel E_Blocked) 1 "_law_pool" m_l_pool := kn_mk o_l_pool (PySem.W.mg_of X Gn a_l_pool) h_l_pool b_l_pool
  have F_l_next := fun_mk (st := s_l_next) l_l_next c_l_next_ h_l_next
  have b_l_next := F_l_next.binds (ps := ["_law_turns_here", "_law_group", "_law_p"]) fun _ _ _ _ _ _ us hl => (lsx3 hl).elim fun _ h => h.elim fun _ h => h.elim fun _ h => by subst h; rfl
  have o_l_next := ok_l_next (G := (theG l w K mg base C_Table E_PostError E_BadInput E_Quarrel E_Blocked)) F_l_next
  have k_l_next : Kn (theG l w K mg base C_Table E_PostError E_BadInput E_Quarrel E_Blocked) 1 "_law_next" m_l_next := kn_mk o_l_next (PySem.W.mg_of X Gn a_l_next) h_l_next b_l_next
  have F_threes := fun_mk (st := s_threes) l_threes c_threes_ h_threes
  have b_threes := F_threes.binds (ps := ["posts"]) fun _ _ _ _ _ _ us hl => (lsx1 hl).elim fun _ h => by subst h; rfl
  have o_threes := ok_threes (G := (theG l w K mg base C_Table E_PostError E_BadInput E_Quarrel E_Blocked)) F_threes (B := B)
  have k_threes : Kn (theG l w K mg base C_Table E_PostError E_BadInput E_Quarrel E_Blocked) 1 "threes" m_threes := kn_mk o_threes (PySem.W.mg_of X Gn a_threes) h_threes b_threes
  have F_turn_of := fun_mk (st := s_turn_of) l_turn_of c_turn_of_ h_turn_of
  have b_turn_of := F_turn_of.binds (ps := ["letters", "a", "b", "c"]) fun _ _ _ _ _ _ us hl => (lsx4 hl).elim fun _ h => h.elim fun _ h => h.elim fun _ h => h.elim fun _ h => by subst h; rfl
  have o_turn_of := ok_turn_of (G := (theG l w K mg base C_Table E_PostError E_BadInput E_Quarrel E_Blocked)) F_turn_of (k_position := k_position.mono (by decide))
  have k_turn_of : Kn (theG l w K mg base C_Table E_PostError E_BadInput E_Quarrel E_Blocked) 2 "turn_of" m_turn_of := kn_mk o_turn_of (PySem.W.mg_of X Gn a_turn_of) h_turn_of b_turn_of
  have F_l_free := fun_mk (st := s_l_free) l_l_free c_l_free_ h_l_free
  have b_l_free := F_l_free.binds (ps := ["_law_places", "_law_spot"]) fun _ _ _ _ _ _ us hl => (lsx2 hl).elim fun _ h => h.elim fun _ h => by subst h; rfl
  have o_l_free := ok_l_free (G := (theG l w K mg base C_Table E_PostError E_BadInput E_Quarrel E_Blocked)) F_l_free (B := B) (k_l_cross := k_l_cross.mono (by decide))
  have k_l_free : Kn (theG l w K mg base C_Table E_PostError E_BadInput E_Quarrel E_Blocked) 2 "_law_free" m_l_free := kn_mk o_l_free (PySem.W.mg_of X Gn a_l_free) h_l_free b_l_free
  have F_l_round := fun_mk (st := s_l_round) l_l_round c_l_round_ h_l_round
  have b_l_round := F_l_round.binds (ps := ["_law_turns_here", "_law_group"]) fun _ _ _ _ _ _ us hl => (lsx2 hl).elim fun _ h => h.elim fun _ h => by subst h; rfl
  have o_l_round := ok_l_round (G := (theG l w K mg base C_Table E_PostError E_BadInput E_Quarrel E_Blocked)) F_l_round (B := B) (k_l_next := k_l_next.mono (by decide))
  have k_l_round : Kn (theG l w K mg base C_Table E_PostError E_BadInput E_Quarrel E_Blocked) 2 "_law_round" m_l_round := kn_mk o_l_round (PySem.W.mg_of X Gn a_l_round) h_l_round b_l_round
  have F_l_turns := fun_mk (st := s_l_turns) l_l_turns c_l_turns_ h_l_turns
  have b_l_turns := F_l_turns.binds (ps := ["_law_places"]) fun _ _ _ _ _ _ us hl => (lsx1 hl).elim fun _ h => by subst h; rfl
  have o_l_turns := ok_l_turns (G := (theG l w K mg base C_Table E_PostError E_BadInput E_Quarrel E_Blocked)) F_l_turns (B := B) (k_l_cross := k_l_cross.mono (by decide))
  have k_l_turns : Kn (theG l w K mg base C_Table E_PostError E_BadInput E_Quarrel E_Blocked) 2 "_law_turns" m_l_turns := kn_mk o_l_turns (PySem.W.mg_of X Gn a_l_turns) h_l_turns b_l_turns
  have F_is_inside := fun_mk (st := s_is_inside) l_is_inside c_is_inside_ h_is_inside
  have b_is_inside := F_is_inside.binds (ps := ["letters", "p", "a", "b", "c"]) fun _ _ _ _ _ _ us hl => (lsx5 hl).elim fun _ h => h.elim fun _ h => h.elim fun _ h => h.elim fun _ h => h.elim fun _ h => by subst h; rfl
  have o_is_inside := ok_is_inside (G := (theG l w K mg base C_Table E_PostError E_BadInput E_Quarrel E_Blocked)) F_is_inside (k_turn_of := k_turn_of.mono (by decide))
  have k_is_inside : Kn (theG l w K mg base C_Table E_PostError E_BadInput E_Quarrel E_Blocked) 3 "is_inside" m_is_inside := kn_mk o_is_inside (PySem.W.mg_of X Gn a_is_inside) h_is_inside b_is_inside
  have F_l_nested := fun_mk (st := s_l_nested) l_l_nested c_l_nested_ h_l_nested
  have b_l_nested := F_l_nested.binds (ps := ["_law_pool_here", "_law_at", "_law_posts", "_law_shrink"]) fun _ _ _ _ _ _ us hl => (lsx4 hl).elim fun _ h => h.elim fun _ h => h.elim fun _ h => h.elim fun _ h => by subst h; rfl
  have o_l_nested := ok_l_nested (G := (theG l w K mg base C_Table E_PostError E_BadInput E_Quarrel E_Blocked)) F_l_nested (B := B) (k_l_draw := k_l_draw.mono (by decide)) (k_l_free := k_l_free.mono (by decide))
  have k_l_nested : Kn (theG l w K mg base C_Table E_PostError E_BadInput E_Quarrel E_Blocked) 3 "_law_nested" m_l_nested := kn_mk o_l_nested (PySem.W.mg_of X Gn a_l_nested) h_l_nested b_l_nested
  have F_breaks_five := fun_mk (st := s_breaks_five) l_breaks_five c_breaks_five_ h_breaks_five
  have b_breaks_five := F_breaks_five.binds (ps := ["letters", "x", "a", "b", "c", "d"]) fun _ _ _ _ _ _ us hl => (lsx6 hl).elim fun _ h => h.elim fun _ h => h.elim fun _ h => h.elim fun _ h => h.elim fun _ h => h.elim fun _ h => by subst h; rfl
  have o_breaks_five := ok_breaks_five (G := (theG l w K mg base C_Table E_PostError E_BadInput E_Quarrel E_Blocked)) F_breaks_five (k_turn_of := k_turn_of.mono (by decide))
  have k_breaks_five : Kn (theG l w K mg base C_Table E_PostError E_BadInput E_Quarrel E_Blocked) 3 "breaks_five" m_breaks_five := kn_mk o_breaks_five (PySem.W.mg_of X Gn a_breaks_five) h_breaks_five b_breaks_five
  have F_in_round_order := fun_mk (st := s_in_round_order) l_in_round_order c_in_round_order_ h_in_round_order
  have b_in_round_order := F_in_round_order.binds (ps := ["letters", "rim"]) fun _ _ _ _ _ _ us hl => (lsx2 hl).elim fun _ h => h.elim fun _ h => by subst h; rfl
  have o_in_round_order := ok_iro (G := (theG l w K mg base C_Table E_PostError E_BadInput E_Quarrel E_Blocked)) l_in_round_order c_in_round_order_ (hTB _ (List.mem_singleton.mpr rfl)) B (k_turn_of.mono (by decide))
  have k_in_round_order : KnSp (theG l w K mg base C_Table E_PostError E_BadInput E_Quarrel E_Blocked) 4 "in_round_order" (spIro (theG l w K mg base C_Table E_PostError E_BadInput E_Quarrel E_Blocked) [(P10, lamQ)]) := knSp_mk o_in_round_order (PySem.W.mg_of X Gn a_in_round_order) h_in_round_order b_in_round_order
  have F_on_rim := fun_mk (st := s_on_rim) l_on_rim c_on_rim_ h_on_rim
  have b_on_rim := F_on_rim.binds (ps := ["letters", "group", "p"]) fun _ _ _ _ _ _ us hl => (lsx3 hl).elim fun _ h => h.elim fun _ h => h.elim fun _ h => by subst h; rfl
  have o_on_rim := ok_on_rim (G := (theG l w K mg base C_Table E_PostError E_BadInput E_Quarrel E_Blocked)) F_on_rim (B := B) (k_is_inside := k_is_inside.mono (by decide))
  have k_on_rim : Kn (theG l w K mg base C_Table E_PostError E_BadInput E_Quarrel E_Blocked) 4 "on_rim" m_on_rim := kn_mk o_on_rim (PySem.W.mg_of X Gn a_on_rim) h_on_rim b_on_rim
  have F_last_breach := fun_mk (st := s_last_breach) l_last_breach c_last_breach_ h_last_breach
  have b_last_breach := F_last_breach.binds (ps := ["letters", "a", "b", "c"]) fun _ _ _ _ _ _ us hl => (lsx4 hl).elim fun _ h => h.elim fun _ h => h.elim fun _ h => h.elim fun _ h => by subst h; rfl
  have o_last_breach := ok_last_breach (G := (theG l w K mg base C_Table E_PostError E_BadInput E_Quarrel E_Blocked)) F_last_breach (B := B) (k_breaks_five := k_breaks_five.mono (by decide)) (k_position := k_position.mono (by decide))
  have k_last_breach : Kn (theG l w K mg base C_Table E_PostError E_BadInput E_Quarrel E_Blocked) 4 "last_breach" m_last_breach := kn_mk o_last_breach (PySem.W.mg_of X Gn a_last_breach) h_last_breach b_last_breach
  have F_breach := fun_mk (st := s_breach) l_breach c_breach_ h_breach
  have b_breach := F_breach.binds (ps := ["letters", "posts"]) fun _ _ _ _ _ _ us hl => (lsx2 hl).elim fun _ h => h.elim fun _ h => by subst h; rfl
  have o_breach := ok_breach (G := (theG l w K mg base C_Table E_PostError E_BadInput E_Quarrel E_Blocked)) F_breach (k_last_breach := k_last_breach.mono (by decide)) (k_threes := k_threes.mono (by decide))
  have k_breach : Kn (theG l w K mg base C_Table E_PostError E_BadInput E_Quarrel E_Blocked) 5 "breach" m_breach := kn_mk o_breach (PySem.W.mg_of X Gn a_breach) h_breach b_breach
  have F_rims := fun_mk (st := s_rims) l_rims c_rims_ h_rims
  have b_rims := F_rims.binds (ps := ["table"]) fun _ _ _ _ _ _ us hl => (lsx1 hl).elim fun _ h => by subst h; rfl
  have fl_1_posts : Fld (theG l w K mg base C_Table E_PostError E_BadInput E_Quarrel E_Blocked) 1 "posts" := ⟨(insB_ok i_C_Table).1, n_1_posts⟩
  have fl_1_letters : Fld (theG l w K mg base C_Table E_PostError E_BadInput E_Quarrel E_Blocked) 1 "letters" := ⟨(insB_ok i_C_Table).1, n_1_letters⟩
  have o_rims := ok_rims10 (G := (theG l w K mg base C_Table E_PostError E_BadInput E_Quarrel E_Blocked)) F_rims B (k_on_rim.mono (by decide)) k_in_round_order fl_1_posts fl_1_letters
  have k_rims : KnSp (theG l w K mg base C_Table E_PostError E_BadInput E_Quarrel E_Blocked) 5 "rims" (spRims (theG l w K mg base C_Table E_PostError E_BadInput E_Quarrel E_Blocked) [(P10, lamQ)]) := knSp_mk o_rims (PySem.W.mg_of X Gn a_rims) h_rims b_rims
  have F_Table___init := fun_mk (st := s_Table___init) l_Table___init c_Table___init_ h_Table___init
  have b_Table___init := F_Table___init.binds (ps := ["self", "letters"]) fun _ _ _ _ _ _ us hl => (lsx2 hl).elim fun _ h => h.elim fun _ h => by subst h; rfl
  have tn_str : TyN (theG l w K mg base C_Table E_PostError E_BadInput E_Quarrel E_Blocked) "str" [("NoneType", false), ("bool", false), ("int", false), ("str", true), ("list", false), ("tuple", false)] [(1, false)] := tyN_mk (cv := (.type "str")) (v := (.ty "str")) (.inr ⟨PySem.W.mg_none_of X Gn z_str, rfl, by decide⟩) rfl (.ty _) kt_str (by decide)
  have kd_SIZES : KdI (theG l w K mg base C_Table E_PostError E_BadInput E_Quarrel E_Blocked) "SIZES" [(1, 3), (4, 4), (10, 5), (20, 6), (35, 7), (56, 8)] := ⟨⟨A_SIZES, PySem.W.mg_of X Gn a_K_SIZES, k_K_SIZES⟩, by decide⟩
  have xf_Quarrel : ExF (theG l w K mg base C_Table E_PostError E_BadInput E_Quarrel E_Blocked) 2 "Quarrel" 3 "posts" := exF_mk (G := (theG l w K mg base C_Table E_PostError E_BadInput E_Quarrel E_Blocked)) (par := "posts") rfl (PySem.W.mg_of X Gn a_E_Quarrel) ol_Quarrel rv_Quarrel eb_Quarrel lx_Quarrel (PySem.W.mg_none_of X Gn z_super) tp_super (by decide +kernel) rfl rfl rfl (fun _ => rfl) (fun _ => rfl) (fun _ => rfl) (fun _ => rfl) (fun _ => rfl) rfl rfl (Binds.all fun us hl => match us, hl with | [_, _], _ => rfl)
  have x_BadInput : ExcK (theG l w K mg base C_Table E_PostError E_BadInput E_Quarrel E_Blocked) "BadInput" 1 := ⟨⟨E_BadInput, rfl, q_BadInput, PySem.W.mg_of X Gn a_E_BadInput, ke_BadInput, sb_BadInput, ty_BadInput⟩⟩
  have o_Table___init := ok_Table___init (G := (theG l w K mg base C_Table E_PostError E_BadInput E_Quarrel E_Blocked)) F_Table___init (B := B) (k_breach := k_breach.mono (by decide)) (x_BadInput := x_BadInput) (tn_str := tn_str) (kd_SIZES := kd_SIZES) (xf_Quarrel := xf_Quarrel.mono (by decide)) (fl_1_letters := fl_1_letters) (fl_1_posts := fl_1_posts)
  have mk_Table : MkK (theG l w K mg base C_Table E_PostError E_BadInput E_Quarrel E_Blocked) 7 1 "Table" m_Table___init := ⟨⟨f_Table___init, _, _, 6, by decide, o_Table___init, PySem.W.mg_of X Gn a_C_Table, ⟨mk0_Table, a_Table___init, i_Table___init, kc_Table⟩, b_Table___init⟩⟩
  have F_law_k10 := fun_mk (st := s_law_k10) l_law_k10 c_law_k10_ h_law_k10
  have b_law_k10 := F_law_k10.binds (ps := ["_law_script"]) fun _ _ _ _ _ _ us hl => (lsx1 hl).elim fun _ h => by subst h; rfl
  have tn_list : TyN (theG l w K mg base C_Table E_PostError E_BadInput E_Quarrel E_Blocked) "list" [("NoneType", false), ("bool", false), ("int", false), ("str", false), ("list", true), ("tuple", false)] [(1, false)] := tyN_mk (cv := (.type "list")) (v := (.ty "list")) (.inr ⟨PySem.W.mg_none_of X Gn z_list, rfl, by decide⟩) rfl (.ty _) kt_list (by decide)
  have tn_int : TyN (theG l w K mg base C_Table E_PostError E_BadInput E_Quarrel E_Blocked) "int" [("NoneType", false), ("bool", true), ("int", true), ("str", false), ("list", false), ("tuple", false)] [(1, false)] := tyN_mk (cv := (.type "int")) (v := (.ty "int")) (.inr ⟨PySem.W.mg_none_of X Gn z_int, rfl, by decide⟩) rfl (.ty _) kt_int (by decide)
  have tn_bool : TyN (theG l w K mg base C_Table E_PostError E_BadInput E_Quarrel E_Blocked) "bool" [("NoneType", false), ("bool", true), ("int", false), ("str", false), ("list", false), ("tuple", false)] [(1, false)] := tyN_mk (cv := (.type "bool")) (v := (.ty "bool")) (.inr ⟨PySem.W.mg_none_of X Gn z_bool, rfl, by decide⟩) rfl (.ty _) kt_bool (by decide)
  exact ok_law10 (G := (theG l w K mg base C_Table E_PostError E_BadInput E_Quarrel E_Blocked)) F_law_k10 B (k_l_draw.mono (by decide)) (k_l_letters.mono (by decide)) (k_l_nested.mono (by decide)) (k_l_pool.mono (by decide)) (k_l_round.mono (by decide)) (k_l_turns.mono (by decide)) (mk_Table.mono (by decide)) k_rims tn_list tn_int tn_bool
end Mir
open PySem PySem.W PyProof.Rows in
set_option maxRecDepth 100000 in
set_option maxHeartbeats 0 in
theorem PySem.Challenge.cw_movedposts_k10_rims_holds : PySem.Challenge.rw_movedposts_k10_rims.Holds := by
  w_on; o_law; k_head; (case hw => w_witness2)
  k_fill
  refine LamX.walk_ofTsE (l := PySem.Challenge.rw_movedposts_k10_rims) (n := 63) (k := 8) (x := "_law_script") (CX := fun w => L2.CX (PySem.Challenge.rw_movedposts_k10_rims).prog w) rfl (by decide) rfl ⟨rfl, by decide, by decide⟩ ?F ?G
  case G =>
    intro w H s e s' z
    obtain ⟨_, _, _, _, _, _, _, _, _, _, _, _, z⟩ := z
    exact z
  case F =>
    intro w mg fa h Y G hmg
    refine ⟨_, PySem.W.km_in_of Y, ?_⟩
    refine' Mir.all_mk (PySem.W.km_in_of Y) G hmg Mir.law_k10_true ?a_C_Table ?i_C_Table ?a_E_PostError ?a_E_BadInput ?a_E_Quarrel ?a_E_Blocked ?z_len ?z_int ?z_range ?z_list ?z_isinstance ?z_enumerate ?z_sorted ?z_str ?z_tuple ?z_max ?z_min ?z_sum ?z_all ?z_zip ?z_iter ?z_bool ?z_ValueError ?a_position ?l_position ?c_position_ ?h_position ?a_l_draw ?l_l_draw ?c_l_draw_ ?h_l_draw ?a_l_letters ?l_l_letters ?c_l_letters_ ?h_l_letters ?a_l_cross ?l_l_cross ?c_l_cross_ ?h_l_cross ?a_l_pool ?l_l_pool ?c_l_pool_ ?h_l_pool ?a_l_next ?l_l_next ?c_l_next_ ?h_l_next ?a_threes ?l_threes ?c_threes_ ?h_threes ?a_turn_of ?l_turn_of ?c_turn_of_ ?h_turn_of ?a_l_free ?l_l_free ?c_l_free_ ?h_l_free ?a_l_round ?l_l_round ?c_l_round_ ?h_l_round ?a_l_turns ?l_l_turns ?c_l_turns_ ?h_l_turns ?a_is_inside ?l_is_inside ?c_is_inside_ ?h_is_inside ?a_l_nested ?l_l_nested ?c_l_nested_ ?h_l_nested ?a_breaks_five ?l_breaks_five ?c_breaks_five_ ?h_breaks_five ?a_in_round_order ?l_in_round_order ?c_in_round_order_ ?h_in_round_order ?a_on_rim ?l_on_rim ?c_on_rim_ ?h_on_rim ?a_last_breach ?l_last_breach ?c_last_breach_ ?h_last_breach ?a_breach ?l_breach ?c_breach_ ?h_breach ?a_rims ?l_rims ?c_rims_ ?h_rims ?n_1_posts ?n_1_letters ?a_Table___init ?i_Table___init ?j_Table___init ?l_Table___init ?c_Table___init_ ?h_Table___init ?kt_str ?a_K_SIZES ?k_K_SIZES ?ol_Quarrel ?rv_Quarrel ?ax_Quarrel ?lx_Quarrel ?eb_Quarrel ?z_super ?tp_super ?q_BadInput ?ke_BadInput ?sb_BadInput ?ty_BadInput ?mk0_Table ?kc_Table ?a_law_k10 ?l_law_k10 ?c_law_k10_ ?h_law_k10 ?kt_list ?kt_int ?kt_bool ?et10 ?hd10 ?nt10
    (case a_C_Table => first | k_is | k_exc | kernel_rfl)
    (case i_C_Table => first | k_is | k_exc | kernel_rfl)
    (case a_E_PostError => first | k_is | k_exc | kernel_rfl)
    (case a_E_BadInput => first | k_is | k_exc | kernel_rfl)
    (case a_E_Quarrel => first | k_is | k_exc | kernel_rfl)
    (case a_E_Blocked => first | k_is | k_exc | kernel_rfl)
    (case z_len => first | k_is | k_exc | kernel_rfl)
    (case z_int => first | k_is | k_exc | kernel_rfl)
    (case z_range => first | k_is | k_exc | kernel_rfl)
    (case z_list => first | k_is | k_exc | kernel_rfl)
    (case z_isinstance => first | k_is | k_exc | kernel_rfl)
    (case z_enumerate => first | k_is | k_exc | kernel_rfl)
    (case z_sorted => first | k_is | k_exc | kernel_rfl)
    (case z_str => first | k_is | k_exc | kernel_rfl)
    (case z_tuple => first | k_is | k_exc | kernel_rfl)
    (case z_max => first | k_is | k_exc | kernel_rfl)
    (case z_min => first | k_is | k_exc | kernel_rfl)
    (case z_sum => first | k_is | k_exc | kernel_rfl)
    (case z_all => first | k_is | k_exc | kernel_rfl)
    (case z_zip => first | k_is | k_exc | kernel_rfl)
    (case z_iter => first | k_is | k_exc | kernel_rfl)
    (case z_bool => first | k_is | k_exc | kernel_rfl)
    (case z_ValueError => first | k_is | k_exc | kernel_rfl)
    (case a_position => first | k_is | k_exc | kernel_rfl)
    (case l_position => first | k_is | k_exc | kernel_rfl)
    (case c_position_ => first | k_is | k_exc | kernel_rfl)
    (case h_position => first | k_is | k_exc | kernel_rfl)
    (case a_l_draw => first | k_is | k_exc | kernel_rfl)
    (case l_l_draw => first | k_is | k_exc | kernel_rfl)
    (case c_l_draw_ => first | k_is | k_exc | kernel_rfl)
    (case h_l_draw => first | k_is | k_exc | kernel_rfl)
    (case a_l_letters => first | k_is | k_exc | kernel_rfl)
    (case l_l_letters => first | k_is | k_exc | kernel_rfl)
    (case c_l_letters_ => first | k_is | k_exc | kernel_rfl)
    (case h_l_letters => first | k_is | k_exc | kernel_rfl)
    (case a_l_cross => first | k_is | k_exc | kernel_rfl)
    (case l_l_cross => first | k_is | k_exc | kernel_rfl)
    (case c_l_cross_ => first | k_is | k_exc | kernel_rfl)
    (case h_l_cross => first | k_is | k_exc | kernel_rfl)
    (case a_l_pool => first | k_is | k_exc | kernel_rfl)
    (case l_l_pool => first | k_is | k_exc | kernel_rfl)
    (case c_l_pool_ => first | k_is | k_exc | kernel_rfl)
    (case h_l_pool => first | k_is | k_exc | kernel_rfl)
    (case a_l_next => first | k_is | k_exc | kernel_rfl)
    (case l_l_next => first | k_is | k_exc | kernel_rfl)
    (case c_l_next_ => first | k_is | k_exc | kernel_rfl)
    (case h_l_next => first | k_is | k_exc | kernel_rfl)
    (case a_threes => first | k_is | k_exc | kernel_rfl)
    (case l_threes => first | k_is | k_exc | kernel_rfl)
    (case c_threes_ => first | k_is | k_exc | kernel_rfl)
    (case h_threes => first | k_is | k_exc | kernel_rfl)
    (case a_turn_of => first | k_is | k_exc | kernel_rfl)
    (case l_turn_of => first | k_is | k_exc | kernel_rfl)
    (case c_turn_of_ => first | k_is | k_exc | kernel_rfl)
    (case h_turn_of => first | k_is | k_exc | kernel_rfl)
    (case a_l_free => first | k_is | k_exc | kernel_rfl)
    (case l_l_free => first | k_is | k_exc | kernel_rfl)
    (case c_l_free_ => first | k_is | k_exc | kernel_rfl)
    (case h_l_free => first | k_is | k_exc | kernel_rfl)
    (case a_l_round => first | k_is | k_exc | kernel_rfl)
    (case l_l_round => first | k_is | k_exc | kernel_rfl)
    (case c_l_round_ => first | k_is | k_exc | kernel_rfl)
    (case h_l_round => first | k_is | k_exc | kernel_rfl)
    (case a_l_turns => first | k_is | k_exc | kernel_rfl)
    (case l_l_turns => first | k_is | k_exc | kernel_rfl)
    (case c_l_turns_ => first | k_is | k_exc | kernel_rfl)
    (case h_l_turns => first | k_is | k_exc | kernel_rfl)
    (case a_is_inside => first | k_is | k_exc | kernel_rfl)
    (case l_is_inside => first | k_is | k_exc | kernel_rfl)
    (case c_is_inside_ => first | k_is | k_exc | kernel_rfl)
    (case h_is_inside => first | k_is | k_exc | kernel_rfl)
    (case a_l_nested => first | k_is | k_exc | kernel_rfl)
    (case l_l_nested => first | k_is | k_exc | kernel_rfl)
    (case c_l_nested_ => first | k_is | k_exc | kernel_rfl)
    (case h_l_nested => first | k_is | k_exc | kernel_rfl)
    (case a_breaks_five => first | k_is | k_exc | kernel_rfl)
    (case l_breaks_five => first | k_is | k_exc | kernel_rfl)
    (case c_breaks_five_ => first | k_is | k_exc | kernel_rfl)
    (case h_breaks_five => first | k_is | k_exc | kernel_rfl)
    (case a_in_round_order => first | k_is | k_exc | kernel_rfl)
    (case l_in_round_order => first | k_is | k_exc | kernel_rfl)
    (case c_in_round_order_ => first | k_is | k_exc | kernel_rfl)
    (case h_in_round_order => first | k_is | k_exc | kernel_rfl)
    (case a_on_rim => first | k_is | k_exc | kernel_rfl)
    (case l_on_rim => first | k_is | k_exc | kernel_rfl)
    (case c_on_rim_ => first | k_is | k_exc | kernel_rfl)
    (case h_on_rim => first | k_is | k_exc | kernel_rfl)
    (case a_last_breach => first | k_is | k_exc | kernel_rfl)
    (case l_last_breach => first | k_is | k_exc | kernel_rfl)
    (case c_last_breach_ => first | k_is | k_exc | kernel_rfl)
    (case h_last_breach => first | k_is | k_exc | kernel_rfl)
    (case a_breach => first | k_is | k_exc | kernel_rfl)
    (case l_breach => first | k_is | k_exc | kernel_rfl)
    (case c_breach_ => first | k_is | k_exc | kernel_rfl)
    (case h_breach => first | k_is | k_exc | kernel_rfl)
    (case a_rims => first | k_is | k_exc | kernel_rfl)
    (case l_rims => first | k_is | k_exc | kernel_rfl)
    (case c_rims_ => first | k_is | k_exc | kernel_rfl)
    (case h_rims => first | k_is | k_exc | kernel_rfl)
    (case n_1_posts => first | k_is | k_exc | kernel_rfl)
    (case n_1_letters => first | k_is | k_exc | kernel_rfl)
    (case a_Table___init => first | k_is | k_exc | kernel_rfl)
    (case i_Table___init => first | k_is | k_exc | kernel_rfl)
    (case j_Table___init => first | k_is | k_exc | kernel_rfl)
    (case l_Table___init => first | k_is | k_exc | kernel_rfl)
    (case c_Table___init_ => first | k_is | k_exc | kernel_rfl)
    (case h_Table___init => first | k_is | k_exc | kernel_rfl)
    (case kt_str => first | k_is | k_exc | kernel_rfl)
    (case a_K_SIZES => first | k_is | k_exc | kernel_rfl)
    (case k_K_SIZES => first | k_is | k_exc | kernel_rfl)
    (case ol_Quarrel => first | k_is | k_exc | kernel_rfl)
    (case rv_Quarrel => first | k_is | k_exc | kernel_rfl)
    (case ax_Quarrel => first | k_is | k_exc | kernel_rfl)
    (case lx_Quarrel => first | k_is | k_exc | kernel_rfl)
    (case eb_Quarrel => first | k_is | k_exc | kernel_rfl)
    (case z_super => first | k_is | k_exc | kernel_rfl)
    (case tp_super => first | k_is | k_exc | kernel_rfl)
    (case q_BadInput => first | k_is | k_exc | kernel_rfl)
    (case ke_BadInput => first | k_is | k_exc | kernel_rfl)
    (case sb_BadInput => first | k_is | k_exc | kernel_rfl)
    (case ty_BadInput => first | k_is | k_exc | kernel_rfl)
    (case mk0_Table => first | k_is | k_exc | kernel_rfl)
    (case kc_Table => first | k_is | k_exc | kernel_rfl)
    (case a_law_k10 => first | k_is | k_exc | kernel_rfl)
    (case l_law_k10 => first | k_is | k_exc | kernel_rfl)
    (case c_law_k10_ => first | k_is | k_exc | kernel_rfl)
    (case h_law_k10 => first | k_is | k_exc | kernel_rfl)
    (case kt_list => first | k_is | k_exc | kernel_rfl)
    (case kt_int => first | k_is | k_exc | kernel_rfl)
    (case kt_bool => first | k_is | k_exc | kernel_rfl)
    (case et10 => exact PySem.W.km_tabs_of Y _ List.mem_cons_self)
    (case hd10 => first | k_is | k_exc | kernel_rfl)
    (case nt10 => first | k_is | k_exc | kernel_rfl)
namespace Mir
end Mir
