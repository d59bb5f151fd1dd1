import PyProof.Rows.All
import Wide.All
import OpenK.AllK
import Wide.FinOn
import HandS.ForMost
import HandS.ForExc
import HandS.ExcCtx
import HandS.ExcInit
import HandS.GenCall
import HandS.TryMany
import HandS.TryOnly
import HandS.WordsExc
import HandS.Hot
import HandS.Star
import HandS.SuiteRaise
import HandS.IsInst
import KE.GoesMore
import HandS.Style
import HandS.ExcIs
import KE.KExcIs
import HandS.Lambda
import HandS.StrMore
import HandS.ClsMeth
import HandS.SlotsOwn
import HandS.OwnIter
import HandS.IterVal
import HandS.EndBits
import KE.KOpsOwn
import KE.LtData
import KE.DatumOrd
import HandS.SortInts
import HandS.Conv
import HandS.ExcField
import KE.KExcSuper
import HandS.Dict
import HandS.GenList
import KE.GoesComp
import PyProof.StrOps2
import HandS.Zip
import HandS.Sort
import HandS.SortOrd
import HandS.SortRule
import HandS.List
import KE.DataMinMax
import HandS.More
import PyProof.RulesMatch
import PyProof.RulesMatchSeq
import PyProof.Rows.MatchSeqLen
import HandS.HotCalls
import HandS.Text
import PyProof.WalksMore
import PyProof.CollectIter
import PyProof.Rows.TupIter
import PyProof.TupleOfSeq
import HandS.Property
import HandS.Defaults
import HandS.DictComp
import HandS.Iter
import PyProof.Rows.SortShellAny
import PyProof.Rows.StrMeet
import PySem.Challenge.RW_movedposts_k28_whole_far_passings_exchan
set_option Elab.async false
set_option linter.all false
set_option maxRecDepth 100000
namespace Mir
open PySem PySem.Spec L2
inductive D where
  | non | bl (b : Bool) | int (i : Int) | str (x : Str)
  | tup (xs : List D) | lst (xs : List D)
  | dct (kvs : List (List Key × D))
  | dks (kvs : List (Key × D))
  | obj (c : Nat) (fs : List (Str × D))
  | slf (a : Addr) (c : Nat) (fs : List (Str × D))
  | scr (ns : List Int)
  | adr (a : Addr)
  | ktp (xs : List D)
structure Exc where
  c : Nat
  fs : List (Str × D)
inductive M (α : Type) where
  | stk | exn (e : Exc) | ok (a : α)
namespace M
def bind {α β : Type} (m : M α) (k : α → M β) : M β := match m with
  | stk => stk
  | exn e => exn e
  | ok a => k a
instance : Monad M where
  pure := ok
  bind := bind
def nox {α : Type} : M α → M α
  | exn _ => stk
  | m => m
end M
inductive Ctl (X S : Type) where
  | stk | exn (e : Exc) (x : X) | ret (d : D) | nx (s : S)
namespace Ctl
def bind {X S T : Type} (c : Ctl X S) (k : S → Ctl X T) : Ctl X T := match c with
  | stk => stk
  | exn e x => exn e x
  | ret d => ret d
  | nx s => k s
end Ctl
def M.bindC {X S α : Type} (m : M α) (x : X) (k : α → Ctl X S) : Ctl X S := match m with
  | .stk => .stk
  | .exn e => .exn e x
  | .ok a => k a
def Ctl.toM {X S : Type} : Ctl X S → M D
  | .stk => .stk
  | .exn e _ => .exn e
  | .ret d => .ok d
  | .nx _ => .ok .non
structure GG where
  P : Program
  w : World
  K : PySem.W.Frag
  mg : Str → Option Value
  base : Heap
  ca : Nat → Addr
  xc : Nat → Value
abbrev Ex (H H' : Hp) : Prop := Same H H'
def KTup (K : PySem.W.Frag) (p : Addr) (vs : List V) : Prop := ∃ (o : Obj) (its : Array Value) (n : Nat), K.lookup p = some o ∧ o.cls = .type "tuple" ∧ o.data = .seq its n ∧ its.size ≤ sizeLine ∧ Vals vs its.toList
mutual
inductive KRep (G : GG) : V → D → Prop
  | int (i : Int) : KRep G (.int i) (.int i)
  | ktp {p : Addr} {vs : List V} {ds : List D} : KTup G.K p vs → KReps G vs ds → KRep G (.ref p) (.ktp ds)
inductive KReps (G : GG) : List V → List D → Prop
  | nil : KReps G [] []
  | cons {v : V} {vs : List V} {d : D} {ds : List D} : KRep G v d → KReps G vs ds → KReps G (v :: vs) (d :: ds)
end
mutual
inductive Rep (G : GG) (S : Hp) : V → D → Prop
  | non : Rep G S .non .non
  | bl (b : Bool) : Rep G S (.bl b) (.bl b)
  | int (i : Int) : Rep G S (.int i) (.int i)
  | str (x : Str) : Rep G S (.str x) (.str x)
  | tup {p : Addr} {vs : List V} {ds : List D} : S p = some (.tup vs) → Reps G S vs ds → Rep G S (.ref p) (.tup ds)
  | lst {p : Addr} {vs : List V} {ds : List D} : S p = some (.lst vs) → Reps G S vs ds → Rep G S (.ref p) (.lst ds)
  | scr {p : Addr} {ns : List Int} : SqL G.K S p (ns.map V.int) → Rep G S (.ref p) (.scr ns)
  | dct {p : Addr} {ks : List (List Key × V)} {kvs : List (List Key × D)} : Rd S p (.dT ks) → ks.map (·.1) = kvs.map (·.1) → Reps G S (ks.map (·.2)) (kvs.map (·.2)) → Rep G S (.ref p) (.dct kvs)
  | dks {p : Addr} {ks : List (Key × V)} {kvs : List (Key × D)} : Rd S p (.dK ks) → ks.map (·.1) = kvs.map (·.1) → Reps G S (ks.map (·.2)) (kvs.map (·.2)) → Rep G S (.ref p) (.dks kvs)
  | obj {a dx : Addr} {c : Nat} {vs : List (Str × V)} {fs : List (Str × D)} : S a = some (.ins (G.ca c) dx vs) → S dx = some (HO.own a) → vs.map (·.1) = fs.map (·.1) → Reps G S (vs.map (·.2)) (fs.map (·.2)) → Rep G S (.ref a) (.obj c fs)
  | adr (a : Addr) : Rep G S (.ref a) (.adr a)
  | kt {p : Addr} {vs : List V} {ds : List D} : KTup G.K p vs → KReps G vs ds → Rep G S (.ref p) (.ktp ds)
  | slf {a dx : Addr} {c : Nat} {vs : List (Str × V)} {fs : List (Str × D)} : S a = some (.ins (G.ca c) dx vs) → S dx = some (HO.own a) → vs.map (·.1) = fs.map (·.1) → Reps G S (vs.map (·.2)) (fs.map (·.2)) → Rep G S (.ref a) (.slf a c fs)
inductive Reps (G : GG) (S : Hp) : List V → List D → Prop
  | nil : Reps G S [] []
  | cons {v : V} {vs : List V} {d : D} {ds : List D} : Rep G S v d → Reps G S vs ds → Reps G S (v :: vs) (d :: ds)
end
section
variable {G : GG} {S S' : Hp}
theorem ex_rd {a : Addr} {u : HO} (e : Ex S S') (h : Rd S a u) : Rd S' a u := by
  rcases h with h | ⟨o, h⟩
  · exact Or.inl (e a _ h)
  · exact Or.inr ⟨o, e a _ h⟩
theorem ex_l {K : PySem.W.Frag} {a : Addr} {xs : List V} (e : Ex S S') (h : SqL K S a xs) : SqL K S' a xs := by
  rcases h with h | h
  · exact Or.inl (ex_rd e h)
  · exact Or.inr h
theorem ex_t {K : PySem.W.Frag} {a : Addr} {xs : List V} (e : Ex S S') (h : SqT K S a xs) : SqT K S' a xs := by
  rcases h with h | h
  · exact Or.inl (ex_rd e h)
  · exact Or.inr h
mutual
theorem Rep.mono (e : Ex S S') : ∀ {v : V} {d : D}, Rep G S v d → Rep G S' v d
  | _, _, .non => .non
  | _, _, .bl b => .bl b
  | _, _, .int i => .int i
  | _, _, .str x => .str x
  | _, _, .tup h r => .tup (e _ _ h) (Reps.mono e r)
  | _, _, .lst h r => .lst (e _ _ h) (Reps.mono e r)
  | _, _, .scr h => .scr (ex_l e h)
  | _, _, .dct h n r => .dct (ex_rd e h) n (Reps.mono e r)
  | _, _, .dks h n r => .dks (ex_rd e h) n (Reps.mono e r)
  | _, _, .adr a => .adr a
  | _, _, .kt k r => .kt k r
  | _, _, .obj h k n r => .obj (e _ _ h) (e _ _ k) n (Reps.mono e r)
  | _, _, .slf h k n r => .slf (e _ _ h) (e _ _ k) n (Reps.mono e r)
theorem Reps.mono (e : Ex S S') : ∀ {vs : List V} {ds : List D}, Reps G S vs ds → Reps G S' vs ds
  | _, _, .nil => .nil
  | _, _, .cons h r => .cons (Rep.mono e h) (Reps.mono e r)
end
mutual
theorem KRep.rep : ∀ {v : V} {d : D}, KRep G v d → Rep G S v d
  | _, _, .int i => .int i
  | _, _, .ktp h r => .kt h r
theorem KReps.reps : ∀ {vs : List V} {ds : List D}, KReps G vs ds → Reps G S vs ds
  | _, _, .nil => .nil
  | _, _, .cons h r => .cons (KRep.rep h) (KReps.reps r)
end
theorem Reps.length : ∀ {vs : List V} {ds : List D}, Reps G S vs ds → vs.length = ds.length
  | _, _, .nil => rfl
  | _, _, .cons _ r => congrArg Nat.succ (Reps.length r)
theorem Reps.get : ∀ {vs : List V} {ds : List D} {i : Nat} {d : D}, Reps G S vs ds → ds[i]? = some d → ∃ v, vs[i]? = some v ∧ Rep G S v d
  | _, _, _, _, .nil, e => by simp at e
  | _, _, 0, _, .cons h _, e => by
    simp at e
    subst e
    exact ⟨_, rfl, h⟩
  | _, _, i + 1, _, .cons _ r, e => by
    obtain ⟨v, h1, h2⟩ := Reps.get (i := i) r (by simpa using e)
    exact ⟨v, by simpa using h1, h2⟩
theorem Reps.append : ∀ {vs : List V} {ds : List D} {us : List V} {es : List D}, Reps G S vs ds → Reps G S us es → Reps G S (vs ++ us) (ds ++ es)
  | _, _, _, _, .nil, s => s
  | _, _, _, _, .cons h r, s => .cons h (Reps.append r s)
theorem Reps.take : ∀ {vs : List V} {ds : List D} (n : Nat), Reps G S vs ds → Reps G S (vs.take n) (ds.take n)
  | _, _, 0, _ => .nil
  | _, _, _ + 1, .nil => .nil
  | _, _, n + 1, .cons h r => .cons h (Reps.take n r)
theorem Reps.drop : ∀ {vs : List V} {ds : List D} (n : Nat), Reps G S vs ds → Reps G S (vs.drop n) (ds.drop n)
  | _, _, 0, r => r
  | _, _, _ + 1, .nil => .nil
  | _, _, n + 1, .cons _ r => Reps.drop n r
theorem Reps.set {v : V} {d : D} (h : Rep G S v d) : ∀ {vs : List V} {ds : List D} (i : Nat), Reps G S vs ds → Reps G S (vs.set i v) (ds.set i d)
  | _, _, _, .nil => .nil
  | _, _, 0, .cons _ r => .cons h r
  | _, _, i + 1, .cons k r => .cons k (Reps.set h i r)
end
def Solid (H : Hp) (p : Addr) : Prop := ∃ o, H p = some o ∧ ∀ xs, o ≠ HO.tup xs
theorem Solid.ne {H : Hp} {p : Addr} (h : Solid H p) : H p ≠ none := fun z => by
  obtain ⟨o, e, _⟩ := h
  rw [z] at e
  cases e
theorem Solid.mono {H H' : Hp} {p : Addr} (h : Solid H p) (e : Ex H H') : Solid H' p := let ⟨o, a, b⟩ := h; ⟨o, e _ _ a, b⟩
structure Grow (S H S' H' : Hp) : Prop where
  s : Ex S S'
  h : Ex H H'
  sub : Ex S' H'
  sep : ∀ p, Solid H p → S p = none → S' p = none
theorem Grow.refl {S H : Hp} (e : Ex S H) : Grow S H S H := ⟨Same.refl _, Same.refl _, e, fun _ _ h => h⟩
theorem Grow.trans {S H S1 H1 S2 H2 : Hp} (a : Grow S H S1 H1) (b : Grow S1 H1 S2 H2) : Grow S H S2 H2 :=
  ⟨a.s.trans b.s, a.h.trans b.h, b.sub, fun p h1 h2 => b.sep p (h1.mono a.h) (a.sep p h1 h2)⟩
theorem ex_upd {H : Hp} {p : Addr} {o : HO} (h : H p = none) : Ex H (upd H p o) := fun a u e => by
  rw [upd_ne (ne_of_none e h)]
  exact e
theorem sub_none {S H : Hp} (e : Ex S H) {p : Addr} (h : H p = none) : S p = none := e.free h
theorem Grow.new {S H : Hp} (e : Ex S H) {p : Addr} {o : HO} (h : H p = none) : Grow S H (upd S p o) (upd H p o) := by
  have hs := sub_none e h
  refine ⟨ex_upd hs, ex_upd h, fun a u q => ?_, fun q h1 h2 => ?_⟩
  · by_cases z : a = p
    · subst z; rw [upd_same] at q ⊢; exact q
    · rw [upd_ne z] at q ⊢; exact e a u q
  · by_cases z : q = p
    · subst z; exact absurd h h1.ne
    · rw [upd_ne z]; exact h2
theorem Grow.newOwn {S H : Hp} (e : Ex S H) {p : Addr} {o : HO} (h : H p = none) : Grow S H S (upd H p o) :=
  ⟨Same.refl _, ex_upd h, fun a u q => by rw [upd_ne (ne_of_none (e a u q) h)]; exact e a u q, fun _ _ h => h⟩
structure RefK where
  a : Addr
  x : Option (Addr × List (Str × D))
inductive Sl where
  | unk | val (d : D) | own (d : D) | ref (a : RefK)
def ExAt (G : GG) (S : Hp) (k : RefK) : Prop := ∀ dd fs, k.x = some (dd, fs) → ∃ vs : List (Str × V), S dd = some (.xd vs) ∧ vs.map (·.1) = fs.map (·.1) ∧ Reps G S (vs.map (·.2)) (fs.map (·.2))
theorem ExAt.mono {G : GG} {S S' : Hp} {k : RefK} (h : ExAt G S k) (e : Ex S S') : ExAt G S' k := fun dd fs z => let ⟨vs, a, n, r⟩ := h dd fs z; ⟨vs, e _ _ a, n, r.mono e⟩
abbrev Gam := List Sl
def OwnAt (G : GG) (H0 S H : Hp) (p : Addr) : D → Prop
  | .lst ds => ∃ vs, H p = some (.lst vs) ∧ Reps G S vs ds
  | .dct kvs => ∃ ks, H p = some (.dT ks) ∧ ks.map (·.1) = kvs.map (·.1) ∧ Reps G S (ks.map (·.2)) (kvs.map (·.2))
  | .dks kvs => ∃ ks, H p = some (.dK ks) ∧ ks.map (·.1) = kvs.map (·.1) ∧ Reps G S (ks.map (·.2)) (kvs.map (·.2))
  | .obj c fs => ∃ dx vs, H p = some (.ins (G.ca c) dx vs) ∧ H dx = some (.own p) ∧ S dx = none ∧ H0 dx = none ∧ vs.map (·.1) = fs.map (·.1) ∧ Reps G S (vs.map (·.2)) (fs.map (·.2))
  | .slf a c fs => p = a ∧ ∃ dx vs, H p = some (.ins (G.ca c) dx vs) ∧ H dx = some (.own p) ∧ S dx = none ∧ H0 dx = none ∧ vs.map (·.1) = fs.map (·.1) ∧ Reps G S (vs.map (·.2)) (fs.map (·.2))
  | _ => False
structure Holds (G : GG) (H0 : Hp) (σ : St) (S H : Hp) (Γ : Gam) : Prop where
  ex : Ex S H
  e0 : Ex H0 H
  len : Γ.length ≤ σ.length
  val : ∀ (i : Nat) d, Γ[i]? = some (Sl.val d) → ∃ v, σ[i]? = some (some v) ∧ Rep G S v d
  own : ∀ (i : Nat) d, Γ[i]? = some (Sl.own d) → ∃ p, σ[i]? = some (some (.ref p)) ∧ S p = none ∧ H0 p = none ∧ OwnAt G H0 S H p d
  dis : ∀ (i j : Nat) d e p, Γ[i]? = some (Sl.own d) → Γ[j]? = some (Sl.own e) → σ[i]? = some (some (.ref p)) → σ[j]? = some (some (.ref p)) → i = j
  ref : ∀ (i : Nat) a, Γ[i]? = some (Sl.ref a) → σ[i]? = some (some (.ref a.a)) ∧ ExAt G S a
theorem set_ref {Γ : Gam} {i j : Nat} {s : Sl} {a : RefK} (h : (Γ.set i s)[j]? = some (Sl.ref a)) (n : ∀ a, s ≠ Sl.ref a) : i ≠ j ∧ Γ[j]? = some (Sl.ref a) := by
  by_cases z : i = j
  · subst z
    by_cases hl : i < Γ.length
    · rw [List.getElem?_set_self hl] at h; exact absurd (Option.some.inj h) (n a)
    · rw [List.getElem?_eq_none (by simpa using hl)] at h; cases h
  · rw [List.getElem?_set_ne z] at h
    exact ⟨z, h⟩
theorem OwnAt.there {G : GG} {H0 S H : Hp} {p : Addr} {d : D} (h : OwnAt G H0 S H p d) : H p ≠ none := by
  cases d with
  | lst ds => obtain ⟨_, e, _⟩ := h; rw [e]; exact fun z => by cases z
  | dct ds => obtain ⟨_, e, _⟩ := h; rw [e]; exact fun z => by cases z
  | dks ds => obtain ⟨_, e, _⟩ := h; rw [e]; exact fun z => by cases z
  | obj c fs => obtain ⟨_, _, e, _⟩ := h; rw [e]; exact fun z => by cases z
  | slf a c fs => obtain ⟨_, _, _, e, _⟩ := h; rw [e]; exact fun z => by cases z
  | _ => exact False.elim h
theorem OwnAt.solid {G : GG} {H0 S H : Hp} {p : Addr} {d : D} (h : OwnAt G H0 S H p d) : Solid H p := by
  cases d with
  | lst ds => obtain ⟨_, e, _⟩ := h; exact ⟨_, e, fun _ z => by cases z⟩
  | dct ds => obtain ⟨_, e, _⟩ := h; exact ⟨_, e, fun _ z => by cases z⟩
  | dks ds => obtain ⟨_, e, _⟩ := h; exact ⟨_, e, fun _ z => by cases z⟩
  | obj c fs => obtain ⟨_, _, e, _⟩ := h; exact ⟨_, e, fun _ z => by cases z⟩
  | slf a c fs => obtain ⟨_, _, _, e, _⟩ := h; exact ⟨_, e, fun _ z => by cases z⟩
  | _ => exact False.elim h
theorem OwnAt.grow {G : GG} {H0 S H S' H' : Hp} {p : Addr} {d : D} (g : Grow S H S' H') (h : OwnAt G H0 S H p d) : OwnAt G H0 S' H' p d := by
  cases d with
  | lst ds => obtain ⟨vs, e, r⟩ := h; exact ⟨vs, g.h _ _ e, r.mono g.s⟩
  | dct ds => obtain ⟨vs, e, n, r⟩ := h; exact ⟨vs, g.h _ _ e, n, r.mono g.s⟩
  | dks ds => obtain ⟨vs, e, n, r⟩ := h; exact ⟨vs, g.h _ _ e, n, r.mono g.s⟩
  | obj c fs => obtain ⟨dx, vs, e, e2, e3, e4, n, r⟩ := h; exact ⟨dx, vs, g.h _ _ e, g.h _ _ e2, g.sep _ ⟨_, e2, fun _ z => by cases z⟩ e3, e4, n, r.mono g.s⟩
  | slf a c fs => obtain ⟨hp, dx, vs, e, e2, e3, e4, n, r⟩ := h; exact ⟨hp, dx, vs, g.h _ _ e, g.h _ _ e2, g.sep _ ⟨_, e2, fun _ z => by cases z⟩ e3, e4, n, r.mono g.s⟩
  | _ => exact False.elim h
theorem Holds.grow {G : GG} {H0 : Hp} {σ : St} {S H S' H' : Hp} {Γ : Gam} (h : Holds G H0 σ S H Γ) (g : Grow S H S' H') : Holds G H0 σ S' H' Γ where
  ex := g.sub
  e0 := h.e0.trans g.h
  len := h.len
  val := fun i d e => let ⟨v, a, b⟩ := h.val i d e; ⟨v, a, b.mono g.s⟩
  own := fun i d e => let ⟨p, a, b, c, o⟩ := h.own i d e; ⟨p, a, g.sep p o.solid b, c, o.grow g⟩
  dis := h.dis
  ref := fun i a e => ⟨(h.ref i a e).1, (h.ref i a e).2.mono g.s⟩
inductive Weak : Gam → Gam → Prop
  | nil {Γ : Gam} : Weak Γ []
  | unk {s : Sl} {Γ Δ : Gam} : Weak Γ Δ → Weak (s :: Γ) (.unk :: Δ)
  | same {s : Sl} {Γ Δ : Gam} : Weak Γ Δ → Weak (s :: Γ) (s :: Δ)
theorem Weak.get : ∀ {Γ Δ : Gam}, Weak Γ Δ → ∀ {i : Nat} {s : Sl}, Δ[i]? = some s → s = .unk ∨ Γ[i]? = some s
  | _, _, .nil, i, s, e => by simp at e
  | _, _, .unk w, 0, s, e => by simp at e; exact .inl e.symm
  | _, _, .same w, 0, s, e => .inr (by simpa using e)
  | _, _, .unk w, i + 1, s, e => by simpa using Weak.get w (i := i) (by simpa using e)
  | _, _, .same w, i + 1, s, e => by simpa using Weak.get w (i := i) (by simpa using e)
theorem Weak.len {Γ Δ : Gam} (w : Weak Γ Δ) : Δ.length ≤ Γ.length := by
  induction w with
  | nil => exact Nat.zero_le _
  | unk _ ih => exact Nat.succ_le_succ ih
  | same _ ih => exact Nat.succ_le_succ ih
theorem Weak.refl : ∀ {Γ : Gam}, Weak Γ Γ
  | [] => .nil
  | _ :: _ => .same Weak.refl
theorem Weak.trans {Γ Δ Θ : Gam} (a : Weak Γ Δ) (b : Weak Δ Θ) : Weak Γ Θ := by
  induction b generalizing Γ with
  | nil => exact .nil
  | unk w ih => cases a with
    | unk a => exact .unk (ih a)
    | same a => exact .unk (ih a)
  | same w ih => cases a with
    | unk a => exact .unk (ih a)
    | same a => exact .same (ih a)
theorem Holds.weak {G : GG} {H0 : Hp} {σ : St} {S H : Hp} {Γ Δ : Gam} (h : Holds G H0 σ S H Γ) (w : Weak Γ Δ) : Holds G H0 σ S H Δ where
  ex := h.ex
  e0 := h.e0
  len := Nat.le_trans w.len h.len
  val := fun i d e => (w.get e).elim (fun z => by cases z) fun e => h.val i d e
  own := fun i d e => (w.get e).elim (fun z => by cases z) fun e => h.own i d e
  dis := fun i j d e p a b => (w.get a).elim (fun z => by cases z) fun a => (w.get b).elim (fun z => by cases z) fun b => h.dis i j d e p a b
  ref := fun i a e => (w.get e).elim (fun z => by cases z) fun e => h.ref i a e
theorem Holds.set {G : GG} {H0 : Hp} {σ : St} {S H : Hp} {Γ : Gam} (h : Holds G H0 σ S H Γ) {i : Nat} {v : V} {d : D} (r : Rep G S v d) : Holds G H0 (σ.set i (some v)) S H (Γ.set i (Sl.val d)) := by
  refine ⟨h.ex, h.e0, by simpa using h.len, fun j e q => ?_, fun j e q => ?_, fun j k a b p q1 q2 q3 q4 => ?_, fun j a q => by obtain ⟨n, q⟩ := set_ref q (fun _ z => by cases z); rw [List.getElem?_set_ne n]; exact h.ref j a q⟩
  · by_cases z : i = j
    · subst z
      have hl : i < Γ.length := by
        by_cases hl : i < Γ.length
        · exact hl
        · rw [List.getElem?_eq_none (by simpa using hl)] at q; cases q
      rw [List.getElem?_set_self hl] at q
      cases q
      exact ⟨v, List.getElem?_set_self (Nat.lt_of_lt_of_le hl h.len), r⟩
    · rw [List.getElem?_set_ne z] at q ⊢
      exact h.val j e q
  · by_cases z : i = j
    · subst z
      by_cases hl : i < Γ.length
      · rw [List.getElem?_set_self hl] at q; cases q
      · rw [List.getElem?_eq_none (by simpa using hl)] at q; cases q
    · rw [List.getElem?_set_ne z] at q ⊢
      exact h.own j e q
  · have ne : ∀ {j : Nat} {a : D}, (Γ.set i (Sl.val d))[j]? = some (Sl.own a) → i ≠ j := fun {j a} q z => by
      subst z
      by_cases hl : i < Γ.length
      · rw [List.getElem?_set_self hl] at q; cases q
      · rw [List.getElem?_eq_none (by simpa using hl)] at q; cases q
    have n1 := ne q1
    have n2 := ne q2
    rw [List.getElem?_set_ne n1] at q1 q3
    rw [List.getElem?_set_ne n2] at q2 q4
    exact h.dis j k a b p q1 q2 q3 q4
end Mir
set_option maxHeartbeats 2000000
namespace L2N
open PySem PySem.Spec PyProof.Rows L2
theorem no_takes {X : Cx} : Takes X (fun _ _ _ _ => False) := fun _ _ h => by
  obtain ⟨_, _, _, _, _, _, _, _, _, _, _, _, _, _, _, _, w⟩ := h
  cases w
theorem okN {x q : Str} {st : Stmt} {f : Addr} {fd : FuncData} {P : Program} {w : World} {K : PySem.W.Frag} {mg : Str → Option Value} {base : Heap} {N ps : List Str} {k : Nat} {sp : Sp} (F : Fun K x q st f fd) (S : FnScope N ps (defScope st)) (len : ∀ vs H Q E, sp vs H Q E → vs.length = ps.length)
    (hb : ∀ (cdv : Value) (A : Around) (outer : List Env) (s : Shared) (H : Hp) (vs : List V) (Q : VK) (E : XK), Room k (A.deeper (envOfC q (defScope st) s.heap.objs.size f cdv)) → sp vs H Q E →
      ∃ t, PSs (cxOf (L2N.CX P w) P w K mg base N q (defScope st) f cdv A outer s H E) (defBody st) t ∧ t { nx := fun _ H' => Q .non H', rt := Q } (L2.start N vs) H) : FnOk P w K mg base (L2N.CX P w) (k + 1) f fd ps sp := by
  obtain ⟨_, _, _, _, _, _, cdv, _, _, rfl, lk, hcd⟩ := F.ex
  exact fn_of lk hcd S len fun A outer s H vs Q E => hb cdv A outer s H vs Q E
section
variable {X : Cx} {W : WX} {E : XK} {E1 : Value → Shared → Prop} {t : Shared}
theorem leaveN (e1 : X.stack = X.env :: X.outer) (e2 : X.env.frame = some X.env.locals) (e3 : X.ex = []) (hW : ∀ c d σ H, W c d σ H → E c d H) {u : Value} (xx : XE X W u t) :
    wpAny (model X.prog X.w) X.A (leaving X.env u) (fun _ t2 => CX X.prog X.w X.outer X.H_0 X.s_0 E u t2 ∧ ∀ p ∈ X.pn, t2.heap.get? p.1 = some p.2) E1 t := by
  obtain ⟨a, B, z, pins, σ, H, c, d, rfl, J, nb, up, sky, na, os, ag, w⟩ := xx
  have away : ∀ b o, X.s_0.heap.get? b = some o → b ∉ X.fs → b ∉ frs X.stack := fun b o e n m => by
    rcases List.mem_cons.mp (J.stkSub b m) with q | q
    · have k1 := Heap.lt_size e
      have k2 := J.ok.above
      rw [q] at k1
      exact Nat.lt_irrefl _ (Nat.lt_of_lt_of_le k1 k2)
    · exact n q
  have nx : ∀ b, b ∉ X.ex := by
    rw [e3]
    exact fun b m => List.not_mem_nil m
  have okB := J.inGround nb
  have pinB : ∀ p ∈ X.pn, B.get? p.1 = some p.2 := fun p hp => by
    obtain ⟨k1, _, k3, k4, _⟩ := J.pin p (List.mem_append_left pins hp)
    exact nb p.1 p.2 k1 fun m => (List.mem_cons.mp (J.stkSub p.1 m)).elim k3 k4
  have last : ∀ g, HandSPX.FlyingZ B X.outer a (Zn c d) g → t.heap.UpToSlots g → (CX X.prog X.w X.outer X.H_0 X.s_0 E (.ref a) { t with heap := g } ∧ ∀ p ∈ X.pn, ({ t with heap := g } : Shared).heap.get? p.1 = some p.2) := fun g fl ug => by
    have U : UB (frs X.outer) X.H_0 H X.s_0.heap B g := {
      keep := fun b o e n m => nb b o (J.base.keep b o e n m (nx b)) (away b o e m)
      slot := fun b o e m => by
        obtain ⟨_, o0, q0, hnf⟩ := J.ok.funs.mem m
        obtain rfl : o = o0 := Option.some.inj (e.symm.trans q0)
        obtain ⟨s1, q1⟩ := J.base.slot b o e (J.ok.frf b m) m (nx b)
        obtain ⟨s2, q2⟩ := up b _ q1 hnf
        obtain ⟨s3, q3⟩ := ug b _ q2 hnf
        exact ⟨s3, q3⟩
      free := fun b o e n => J.base.free b o e n (nx b)
      there := fun b o e m => (J.base.there b o e (nx b)).elim fun o' q => ⟨o', nb b o' q (away b o e m)⟩
      tups := J.base.tups
      frzs := J.base.frzs
      tbls := J.base.tbls }
    exact ⟨⟨a, B, H, c, d, rfl, fl, okB, U, na, os.trans J.os, ag, hW c d σ H w⟩, fun p hp => fl.1 p.1 p.2 (pinB p hp)⟩
  have fr : X.A.frames = some (X.env :: X.outer) := e1 ▸ J.ok.frames
  rw [e1] at sky
  rcases sky with ⟨g1, g2, g3, oe, vs, g4, g5, g6, g7⟩ | fl | hh
  · exact PXN.leaving_firstZ Zn.steady fr g3 e2 g4 g1 g2 g6 g7 g5 last
  · exact PXN.leaves_onZ Zn.steady fr e2 fl last
  · exact HandSPX.leaves_heldZ e2 hh last
end
theorem mkN_end {X : Cx} {pins : List (Addr × Obj)} {σ : L2.St} {H1 H2 : Hp} {Q : XK} {g0 g1 g2 : Heap} {y1 y2 : Array GenState} {d1 d2 : Drawn} {t1 t2 : Nat} {os1 os2 : OsState} {a C d : Addr} {fs : List (Str × V)} (T : Raises X (.ref C)) (J : Inv X pins σ H1 ⟨g0, y1, d1, t1, os1⟩)
    (ha : g0.objs.size ≤ a) (k : ∀ b o, g0.get? b = some o → g1.get? b = some o) (un : Un (frs X.stack) [] (upd H1 a (exo a C none)) H2 g1 g2) (hok : HOk X.prog X.w H2 g2) (ho : os2 = os1) (hb : AllBare y2)
    (ea : H2 a = some (exo a C (some d))) (ed : H2 d = some (exd d fs)) (hd : H1 d = none) (q : Q (.ref C) (some d) (upd (del H2 a) d (.xd fs))) : MkP X pins σ Q (.ref a) ⟨g2, y2, d2, t2, os2⟩ := by
  obtain ⟨t0, G, J2, kG, ge, he, na⟩ := mk_end0 (d2 := d2) (t2 := t2) J ha k un hok ho hb ea ed hd
  refine ⟨a, _, _, ⟨G, y2, d2, t2, os2⟩, _, .ref C, some d, rfl, J2, kG, ge, he, ⟨rfl, rfl, fun vs z => ?_⟩, rfl, rfl, na, rfl, hb, T, q⟩
  cases z
  rfl
section
variable {X : Cx} {e : Expr} {es : List Expr} {p pos : Pos} {ta : TA}
theorem pmkN_oex {CX0 : CXT} {x : Str} {C fI : Addr} {k : Nat} {fd : FuncData} {ps : List Str} {sp : Sp} {ds : List Value} {dvs : List V} (T : OexC X.K C) (iC : PySem.W.findIn X.K (.ref C) "__init__" = some (some (.ref fI))) (tI : PySem.W.typeIn X.K (.ref fI) = some (.type "function"))
    (F1 : FnOk X.prog X.w X.K X.mg X.base CX0 k fI fd ps sp) (hr : Room (k + 1) X.A) (hb : L2.Binds X.K fd ps ds) (hd : Vals dvs ds) (hx : Passes CX0 X (fun _ _ _ => False)) (hg : Gl X x) (hm : X.mg x = some (.ref C)) (ha : PA X (e :: es) ta)
    (hdb : (x == ("__debug__" : Str)) = false := by decide) (he : starEach (e :: es) X.env = (false, eval e X.env) :: starEach es X.env := by rfl) (hpl : (backTo pos (starEach es X.env)).any (·.1) = false := by rfl) :
    PMk X (.Call (.Name x p) (e :: es) [] pos) (tMkO C sp dvs ta) := by
  intro pins s σ H Q I h
  obtain ⟨_, _, _, _, bm, _, _, _, _, _, _, _, _, _, _, hC, hbm⟩ := T.cls
  refine wpAny_Call_Name_kw (ld_glob I hg hm ?_ hdb)
  refine PySem.W.callWith_K (h₀ := X.base) I.ok.mod.kin T.kC (thn (ha.run pos pins s σ H _ I h) fun us z ⟨vs, H1, J, r1, hz, q1⟩ => ⟨J.kIn, ?_⟩) he hpl
  obtain ⟨g0, gg, dr, tk, os⟩ := z
  change wpAny _ _ (call (.ref C) us) _ _ _
  have lt : g0.objs.size ≤ g0.objs.size + 1 := Nat.le_succ _
  have hq := q1 (g0.objs.size + 1) (J.hok.fresh lt)
  have kp : ∀ b o, g0.get? b = some o → ((g0.push (PySem.W.kdv_tup us)).push (PySem.HandSPX.excO C g0.objs.size)).get? b = some o := fun b o w => Heap.get?_push_of_some _ (Heap.get?_push_of_some _ w)
  have at_ : ((g0.push (PySem.W.kdv_tup us)).push (PySem.HandSPX.excO C g0.objs.size)).get? (g0.objs.size + 1) = some (PySem.HandSPX.excO C g0.objs.size) := by heap_get
  have J2 : Inv X pins σ (upd H1 (g0.objs.size + 1) (exo (g0.objs.size + 1) C none)) ⟨(g0.push (PySem.W.kdv_tup us)).push (PySem.HandSPX.excO C g0.objs.size), gg, dr, tk, os⟩ :=
    J.laid (t' := tk) (a := g0.objs.size + 1) (o := exo (g0.objs.size + 1) C none) (h' := (g0.push (PySem.W.kdv_tup us)).push (PySem.HandSPX.excO C g0.objs.size)) kp lt (exo_ok at_)
  have r2 : Vals (V.ref (g0.objs.size + 1) :: (vs ++ dvs)) (Value.ref (g0.objs.size + 1) :: (us ++ ds)) := .cons rfl (r1.append hd)
  have hl : (Value.ref (g0.objs.size + 1) :: us ++ ds).length = ps.length := r2.length.symm.trans (F1.len _ _ _ _ hq)
  have hus : us.length ≤ sizeLine := by
    rw [← r1.length, sizeLine_eq]
    omega
  refine wpAny_call (PySem.HandSPX.call_own F.excBase_ValueError (fun Y => PySem.HandSPX.refsVE_contains Y bm hbm) (J.kIn _ _ hC) (PySem.W.looks_findIn J.kIn iC) (fun self => PySem.W.bind_fn J.kIn self tI) hus
    (codeAny_mono (F1.run _ X.stack _ _ ⟨Value.ref (g0.objs.size + 1) :: us, []⟩ (Value.ref (g0.objs.size + 1) :: (us ++ ds)) _ _ (fun _ _ _ => False) (hr.make C us []) (J2.env0.make C us []) (hb _ (Value.ref (g0.objs.size + 1) :: us) J2.kIn hl) r2 hq) fun r t h' => ?_))
  match r, h' with
  | .error er, h' => exact hx pins σ _ _ er t J2 h'
  | .ok (.ret u), h' =>
    obtain ⟨v, H2, os2, bare2, un2, ok2, rv, ev, d, fs, ea, ed, hd1, q2⟩ := h'
    subst ev
    obtain ⟨g2, y2, d2, t2, os'⟩ := t
    exact ⟨rv, mkN_end (raises_own T.exC T.tyC) J lt kp un2 ok2 os2 bare2 ea ed hd1 q2⟩
  | .ok .next, h' => exact h'.elim
  | .ok .brk, h' => exact h'.elim
  | .ok .cont, h' => exact h'.elim
end
theorem ps_try_oneN {X : Cx} {x : Str} {c : Value} {body suite : List Stmt} {b₀ : Stmt} {np pos pos' : Pos} {tb : WX → TS} {ts : Addr → Value → Option Addr → TS} {Wout : WX} (hs : X.stack = X.env :: X.outer) (hf : X.env.frame = some X.env.locals) (hc : Names X x c) (tk : Takes X Wout)
    (hb : ∀ (W : WX) (pn : List (Addr × Obj)) (xe : Value → Shared → Prop), Takes (X.tr pn xe) W → PassesOwn (model X.prog X.w) X.A X.env xe → PSs (X.tr pn xe) body (tb W))
    (hsu : ∀ (a : Addr) (oe : Obj) (cls : Value) (d : Option Addr) (pn : List (Addr × Obj)), Zn cls d oe → (∃ vs, oe.data = .fields vs) → PSs (X.suite a ((a, oe) :: pn)) (b₀ :: suite) (ts a cls d)) :
    PS X (.Try body [.ExceptHandler (some (.Name x np)) none (b₀ :: suite) pos'] [] [] pos) (fun D σ H => tb (wOnly X.K c ts Wout D) D σ H) :=
  ps_try_many (l := [(c, ts)]) (pos := pos) hs hf tk hb (.cons hc hsu .nil)
theorem fl_weak {B h : Heap} {l : List Env} {a : Addr} {c : Value} {d : Option Addr} (x : HandSPX.FlyingZ B l a (Zn c d) h) : HandSPX.FlyingZ B l a (Zc c d) h := L2H.flyingZ_imp (fun _ z => z.zc) x
end L2N
namespace Mir
open PySem PySem.Spec L2
structure Fm where
  G : GG
  W : WX
  N : List Str
  V : List Bool
  L : List Bool
  kd : List (Str × NameKind)
  Xs : Cx → Prop
  k : Nat
  cm : Bool
  top : Bool
  fr : Bool
  ow : Option Addr
  hX : ∀ X, Xs X → X.prog = G.P ∧ X.w = G.w ∧ X.K = G.K ∧ X.mg = G.mg ∧ X.base = G.base ∧ X.N = N
  nd : N.Nodup
  hkd : ∀ X, Xs X → X.env.scope.names = kd
  hki : ∀ X, Xs X → X.env.scope.kind = .function
  vis : ∀ X, Xs X → ∀ (i : Nat) x, V[i]? = some true → N[i]? = some x → Vis X.env.scope x
  loc : ∀ X, Xs X → ∀ (i : Nat) x, L[i]? = some true → N[i]? = some x → Loc X.env.scope x ∧ (X.fn x = true ∨ X.env.scope.names.lookup x = some .local)
  hc : cm = true → ∀ X, Xs X → X.calm = true
  hr : cm = true → ∀ X, Xs X → Room k X.A
  hu : ∀ X, Xs X → X.A.units + 64 < cLine
  tk : ∀ X, Xs X → L2N.Takes X W
  po : ∀ X, Xs X → PassesOwn (model X.prog X.w) X.A X.env X.xe
  ht : top = true → ∀ X, Xs X → X.stack = X.env :: X.outer ∧ X.env.frame = some X.env.locals ∧ X.ex = []
theorem Fm.hK (F : Fm) (X : Cx) (h : F.Xs X) : X.K = F.G.K := (F.hX X h).2.2.1
theorem Fm.hN (F : Fm) (X : Cx) (h : F.Xs X) : X.N = F.N := (F.hX X h).2.2.2.2.2
theorem Fm.gl (F : Fm) (X : Cx) (h : F.Xs X) {x : Str} (k : F.kd.lookup x = some .globalImplicit) : Gl X x := by
  show X.env.scope.names.lookup x = _
  rw [F.hkd X h]
  exact k
def RepX (G : GG) (S : Hp) (cls : Value) (dd : Option Addr) (e : Exc) : Prop :=
  cls = G.xc e.c ∧ ((e.fs = [] ∧ dd = none) ∨ e.fs ≠ [] ∧ ∃ d vs, dd = some d ∧ S d = some (.xd vs) ∧ vs.map (·.1) = e.fs.map (·.1) ∧ Reps G S (vs.map (·.2)) (e.fs.map (·.2)))
def Po {α : Type} (G : GG) (E : XK) (S H : Hp) (K : α → Hp → Hp → Prop) : M α → Prop
  | .stk => False
  | .exn e => ∀ cls dd S' H', Grow S H S' H' → RepX G S' cls dd e → E cls dd H'
  | .ok a => ∀ S' H', Grow S H S' H' → K a S' H'
section
variable {G : GG} {E : XK} {α β : Type} {S H S1 H1 : Hp} {K K' : α → Hp → Hp → Prop}
theorem Po.step {m : M α} (p : Po G E S H K m) (g : Grow S H S1 H1) : Po G E S1 H1 K m := by
  cases m with
  | stk => exact p
  | exn e => exact fun cls dd S' H' g' => p cls dd S' H' (g.trans g')
  | ok a => exact fun S' H' g' => p S' H' (g.trans g')
theorem Po.bind {K : β → Hp → Hp → Prop} {m : M α} {k : α → M β} (p : Po G E S H K (m.bind k)) : Po G E S H (fun a S' H' => Po G E S' H' K (k a)) m := by
  cases m with
  | stk => exact p
  | exn e => exact p
  | ok a => exact fun S' H' g => Po.step (m := k a) p g
theorem Po.imp {m : M α} (p : Po G E S H K m) (h : ∀ a S' H', Grow S H S' H' → K a S' H' → K' a S' H') : Po G E S H K' m := by
  cases m with
  | stk => exact p
  | exn e => exact p
  | ok a => exact fun S' H' g => h a S' H' g (p S' H' g)
theorem Po.gate {c : Prop} [Decidable c] {m : M α} (p : Po G E S H K (if c then m else .stk)) : c ∧ Po G E S H K m := by
  by_cases h : c
  · rw [if_pos h] at p; exact ⟨h, p⟩
  · rw [if_neg h] at p; exact False.elim p
theorem Po.ok {a : α} (e : Ex S H) (p : Po G E S H K (.ok a)) : K a S H := p S H (Grow.refl e)
end
abbrev KE (F : Fm) (Q : VK) : D → Hp → Hp → Prop := fun d S H => ∀ v, Rep F.G S v d → Q v H
abbrev KA (F : Fm) (Q : List V → Hp → Prop) : List D → Hp → Hp → Prop := fun ds S H => ∀ vs, Reps F.G S vs ds → Q vs H
abbrev KT (Q : Bool → Hp → Prop) : Bool → Hp → Hp → Prop := fun b _ H => Q b H
def EvM (F : Fm) (te : TE) (Γ : Gam) (m : M D) : Prop := ∀ H0 σ S H Q, Holds F.G H0 σ S H Γ → Po F.G (WE F.W σ) S H (KE F Q) m → te σ H Q
def EvA (F : Fm) (ta : TA) (Γ : Gam) (m : M (List D)) : Prop := ∀ H0 σ S H Q, Holds F.G H0 σ S H Γ → Po F.G (WE F.W σ) S H (KA F Q) m → ta σ H Q
def EvT (F : Fm) (tt : TT) (Γ : Gam) (m : M Bool) : Prop := ∀ H0 σ S H Q, Holds F.G H0 σ S H Γ → Po F.G (WE F.W σ) S H (KT Q) m → tt σ H Q
def EM (F : Fm) (e : Expr) (Γ : Gam) (m : M D) : Prop := ∃ t, (∀ X, F.Xs X → PE X e t) ∧ EvM F t Γ m
def AM (F : Fm) (es : List Expr) (Γ : Gam) (m : M (List D)) : Prop := ∃ t, (∀ X, F.Xs X → PA X es t) ∧ EvA F t Γ m
def TM (F : Fm) (e : Expr) (Γ : Gam) (m : M Bool) : Prop := ∃ t, (∀ X, F.Xs X → PT X e t) ∧ EvT F t Γ m
def WM (F : Fm) (e : Expr) (Γ : Gam) (m : M Bool) : Prop := ∃ t, (∀ X, F.Xs X → PW X e t) ∧ EvT F t Γ m
def b1 {α β : Type} (f : α → M β) (a : M α) : M β := a.bind f
def b2 {α β γ : Type} (f : α → β → M γ) (a : M α) (b : M β) : M γ := a.bind fun x => b.bind fun y => f x y
def RM (F : Fm) (r : R2) (f : D → D → M D) : Prop := ∀ x y vx vy σ S H Q, Ex S H → Rep F.G S vx x → Rep F.G S vy y → Po F.G (WE F.W σ) S H (KE F Q) (f x y) → r vx vy H Q
section
variable {F : Fm} {Γ : Gam} {a b c e : Expr} {es : List Expr} {ma mb mc m : M D} {pos : Pos}
theorem em_var (i : Nat) {x : Str} {d : D} (hn : F.N[i]? = some x) (hv : F.V[i]? = some true) (hΓ : Γ[i]? = some (Sl.val d))
    (hd : (x == ("__debug__" : Str)) = false := by decide) (hcd : (x == ("__classdict__" : Str)) = false := by decide) : EM F (.Name x pos) Γ (.ok d) := by
  refine ⟨tVar i, fun X hX => pe_var (by rw [F.hN X hX]; exact hn) (F.vis X hX i x hv hn) hd hcd, fun H0 σ S H Q hh p => ?_⟩
  obtain ⟨v, hv, r⟩ := hh.val i d hΓ
  exact ⟨v, hv, p.ok hh.ex v r⟩
theorem em_int {i : Int} {j} : EM F (.Constant (.int i) j pos) Γ (.ok (.int i)) := ⟨_, fun X _ => pe_int, fun H0 σ S H Q hh p => p.ok hh.ex _ (.int i)⟩
theorem em_bl {i : Bool} {j} : EM F (.Constant (.bool i) j pos) Γ (.ok (.bl i)) := ⟨_, fun X _ => pe_bl, fun H0 σ S H Q hh p => p.ok hh.ex _ (.bl i)⟩
theorem em_str {i : Str} {j} : EM F (.Constant (.str i) j pos) Γ (.ok (.str i)) := ⟨_, fun X _ => pe_str, fun H0 σ S H Q hh p => p.ok hh.ex _ (.str i)⟩
theorem em_non {j} : EM F (.Constant .none j pos) Γ (.ok .non) := ⟨_, fun X _ => pe_non, fun H0 σ S H Q hh p => p.ok hh.ex _ .non⟩
theorem ev2 {ta tb : TE} {R : V → V → Hp → Prop} {H0 : Hp} {σ : L2.St} {S H : Hp} {K : D → Hp → Hp → Prop} {f : D → D → M D} (ha : EvM F ta Γ ma) (hb : EvM F tb Γ mb) (hh : Holds F.G H0 σ S H Γ) (p : Po F.G (WE F.W σ) S H K (b2 f ma mb))
    (h : ∀ x y vx vy S2 H2, Grow S H S2 H2 → Rep F.G S2 vx x → Rep F.G S2 vy y → Po F.G (WE F.W σ) S2 H2 K (f x y) → R vx vy H2) : ta σ H fun x H1 => tb σ H1 fun y H2 => R x y H2 := by
  refine ha H0 σ S H _ hh (Po.bind p |>.imp fun x S1 H1 g1 q1 vx rx => ?_)
  refine hb H0 σ S1 H1 _ (hh.grow g1) (Po.bind q1 |>.imp fun y S2 H2 g2 q2 vy ry => ?_)
  exact h x y vx vy S2 H2 (g1.trans g2) (rx.mono g2.s) ry q2
theorem em_op {op : Operator} {r : R2} {f : D → D → M D} (ho : ∀ X, F.Xs X → OpR X (binaryOp op) r) (hf : RM F r f) (ha : EM F a Γ ma) (hb : EM F b Γ mb) : EM F (.BinOp a op b pos) Γ (b2 f ma mb) := by
  obtain ⟨ta, pa, ea⟩ := ha
  obtain ⟨tb, pb, eb⟩ := hb
  exact ⟨tOp r ta tb, fun X hX => pe_op (ho X hX) (pa X hX) (pb X hX), fun H0 σ S H Q hh p => ev2 ea eb hh p fun x y vx vy S2 H2 g rx ry q => hf x y vx vy σ S2 H2 Q g.sub rx ry q⟩
theorem em_cmp {op : CmpOp} {r : R2} {f : D → D → M D} (ho : ∀ X, F.Xs X → OpR X (compareOp op) r) (hf : RM F r f) (ha : EM F a Γ ma) (hb : EM F b Γ mb) (hm : behindInMarks op b = false) : EM F (.Compare a [op] [b] pos) Γ (b2 f ma mb) := by
  obtain ⟨ta, pa, ea⟩ := ha
  obtain ⟨tb, pb, eb⟩ := hb
  exact ⟨tOp r ta tb, fun X hX => pe_cmpR (ho X hX) (pa X hX) (pb X hX) hm, fun H0 σ S H Q hh p => ev2 ea eb hh p fun x y vx vy S2 H2 g rx ry q => hf x y vx vy σ S2 H2 Q g.sub rx ry q⟩
def isB : D → M Bool
  | .bl b => .ok b
  | _ => .stk
theorem tm_cmp {op : CmpOp} {r : R2} {f : D → D → M D} (ho : ∀ X, F.Xs X → OpR X (compareOp op) r) (hf : RM F r f) (ha : EM F a Γ ma) (hb : EM F b Γ mb) (hm : behindInMarks op b = false) : TM F (.Compare a [op] [b] pos) Γ (b1 isB (b2 f ma mb)) := by
  obtain ⟨ta, pa, ea⟩ := ha
  obtain ⟨tb, pb, eb⟩ := hb
  refine ⟨tTest (tOp r ta tb), fun X hX => pt_cmpR (ho X hX) (pa X hX) (pb X hX) hm, fun H0 σ S H Q hh p => ?_⟩
  refine ev2 (K := KE F fun x H' => ∃ k, x = .bl k ∧ Q k H') ea eb hh (Po.bind p |>.imp fun d S' H' g q v r => ?_) fun x y vx vy S2 H2 g rx ry q => hf x y vx vy σ S2 H2 _ g.sub rx ry q
  cases r with
  | bl k => exact ⟨k, rfl, Po.ok g.sub q⟩
  | _ => exact False.elim q
def pyAdd : D → D → M D
  | .int a, .int b => .ok (.int (a + b))
  | .str a, .str b => if a.length + b.length ≤ sizeLine then .ok (.str (a ++ b)) else .stk
  | .lst a, .lst b => if a.length + b.length ≤ sizeLine then .ok (.lst (a ++ b)) else .stk
  | _, _ => .stk
def pySub : D → D → M D
  | .int a, .int b => .ok (.int (a - b))
  | _, _ => .stk
def pyMul : D → D → M D
  | .int a, .int b => if (-(2 ^ 64) < a ∧ a < 2 ^ 64) ∨ (-(2 ^ 64) < b ∧ b < 2 ^ 64) then .ok (.int (a * b)) else .stk
  | _, _ => .stk
def pyMod : D → D → M D
  | .int a, .int b => if 0 < b then .ok (.int (a % b)) else .stk
  | _, _ => .stk
def pyDiv : D → D → M D
  | .int a, .int b => if 0 < b ∧ b < 1073741824 then .ok (.int (a / b)) else .stk
  | _, _ => .stk
def pyPow : D → D → M D
  | .int a, .int b => if 0 ≤ b ∧ b ≤ 1000000 ∧ a.natAbs < 2 ^ 64 then .ok (.int (a ^ b.toNat)) else .stk
  | _, _ => .stk
def pyNeg : D → M D
  | .int a => .ok (.int (-a))
  | _ => .stk
def rAddA (K : PySem.W.Frag) : R2 := fun x y H Q => (∃ i j, x = .int i ∧ y = .int j ∧ Q (.int (i + j)) H) ∨ (∃ i j, x = .str i ∧ y = .str j ∧ i.length + j.length ≤ sizeLine ∧ Q (.str (i ++ j)) H) ∨ rCat x y H Q
theorem rm_add : RM F (rAddA F.G.K) pyAdd := by
  intro x y vx vy σ S H Q ex rx ry p
  cases x with
  | int i => cases y with
    | int j => cases rx; cases ry; exact .inl ⟨i, j, rfl, rfl, p.ok ex _ (.int _)⟩
    | _ => exact False.elim p
  | str i => cases y with
    | str j =>
      cases rx; cases ry
      obtain ⟨hl, p⟩ := Po.gate (c := i.length + j.length ≤ sizeLine) (m := M.ok (D.str (i ++ j))) p
      exact .inr (.inl ⟨i, j, rfl, rfl, hl, p.ok ex _ (.str _)⟩)
    | _ => exact False.elim p
  | lst xs => cases y with
    | lst ys =>
      cases rx with
      | @lst p1 vs _ h1 r1 => cases ry with
        | @lst p2 us _ h2 r2 =>
          obtain ⟨hl, p⟩ := Po.gate (c := xs.length + ys.length ≤ sizeLine) (m := M.ok (D.lst (xs ++ ys))) p
          refine .inr (.inr ⟨_, _, _, _, rfl, rfl, ex _ _ h1, ex _ _ h2, by rw [r1.length, r2.length]; exact hl, fun q hq => ?_⟩)
          have g := Grow.new (o := HO.lst (vs ++ us)) ex hq
          exact p _ _ g _ (.lst upd_same ((r1.mono g.s).append (r2.mono g.s)))
    | _ => exact False.elim p
  | _ => exact False.elim p
theorem em_add (ha : EM F a Γ ma) (hb : EM F b Γ mb) : EM F (.BinOp a .Add b pos) Γ (b2 pyAdd ma mb) :=
  em_op (r := rAddA F.G.K) (fun X _ => op_add.or (op_add_str.or op_cat)) rm_add ha hb
theorem rm_I {C : Int → Int → Prop} {g : Int → Int → Int} {f : D → D → M D} (h : ∀ (x y : D) (σ : L2.St) S H Q, Ex S H → Po F.G (WE F.W σ) S H (KE F Q) (f x y) → ∃ i j, x = .int i ∧ y = .int j ∧ C i j ∧ KE F Q (.int (g i j)) S H) : RM F (rI C fun i j => .int (g i j)) f := by
  intro x y vx vy σ S H Q ex rx ry p
  obtain ⟨i, j, rfl, rfl, hc, q⟩ := h x y σ S H Q ex p
  cases rx; cases ry
  exact ⟨i, j, rfl, rfl, hc, q _ (.int _)⟩
theorem em_sub (ha : EM F a Γ ma) (hb : EM F b Γ mb) : EM F (.BinOp a .Sub b pos) Γ (b2 pySub ma mb) := by
  refine em_op (r := rI0 fun i j => .int (i - j)) (fun X _ => op_sub) (fun x y vx vy σ S H Q ex rx ry p => ?_) ha hb
  cases x <;> first | exact False.elim p | (cases y <;> first | exact False.elim p | (cases rx; cases ry; exact ⟨_, _, rfl, rfl, p.ok ex _ (.int _)⟩))
theorem em_mul (ha : EM F a Γ ma) (hb : EM F b Γ mb) : EM F (.BinOp a .Mult b pos) Γ (b2 pyMul ma mb) := by
  refine em_op (r := rI CMul fun i j => .int (i * j)) (fun X _ => op_mul) (rm_I fun x y σ S H Q ex p => ?_) ha hb
  cases x <;> first | exact False.elim p | (cases y <;> first | exact False.elim p | (obtain ⟨hc, p⟩ := Po.gate (m := M.ok (D.int _)) p; exact ⟨_, _, rfl, rfl, hc, p.ok ex⟩))
theorem em_mod (ha : EM F a Γ ma) (hb : EM F b Γ mb) : EM F (.BinOp a .Mod b pos) Γ (b2 pyMod ma mb) := by
  refine em_op (r := rI (fun _ j => 0 < j) fun i j => .int (i % j)) (fun X _ => op_mod) (rm_I fun x y σ S H Q ex p => ?_) ha hb
  cases x <;> first | exact False.elim p | (cases y <;> first | exact False.elim p | (obtain ⟨hc, p⟩ := Po.gate (m := M.ok (D.int _)) p; exact ⟨_, _, rfl, rfl, hc, p.ok ex⟩))
theorem em_div (ha : EM F a Γ ma) (hb : EM F b Γ mb) : EM F (.BinOp a .FloorDiv b pos) Γ (b2 pyDiv ma mb) := by
  refine em_op (r := rI CDiv fun i j => .int (i / j)) (fun X _ => op_fdiv) (rm_I fun x y σ S H Q ex p => ?_) ha hb
  cases x <;> first | exact False.elim p | (cases y <;> first | exact False.elim p | (obtain ⟨hc, p⟩ := Po.gate (m := M.ok (D.int _)) p; exact ⟨_, _, rfl, rfl, hc, p.ok ex⟩))
theorem em_pow (ha : EM F a Γ ma) (hb : EM F b Γ mb) : EM F (.BinOp a .Pow b pos) Γ (b2 pyPow ma mb) := by
  refine em_op (r := rI CPow fun i j => .int (i ^ j.toNat)) (fun X _ => op_pow) (rm_I fun x y σ S H Q ex p => ?_) ha hb
  cases x <;> first | exact False.elim p | (cases y <;> first | exact False.elim p | (obtain ⟨hc, p⟩ := Po.gate (m := M.ok (D.int _)) p; exact ⟨_, _, rfl, rfl, hc, p.ok ex⟩))
theorem em_neg (ha : EM F a Γ ma) : EM F (.UnaryOp .USub a pos) Γ (b1 pyNeg ma) := by
  obtain ⟨ta, pa, ea⟩ := ha
  refine ⟨tUn (rU fun i => .int (-i)) ta, fun X hX => pe_un un_neg (pa X hX), fun H0 σ S H Q hh p => ?_⟩
  refine ea H0 σ S H _ hh (Po.bind p |>.imp fun x S1 H1 g1 q1 vx rx => ?_)
  cases rx <;> first | exact False.elim q1 | exact ⟨_, rfl, q1.ok g1.sub _ (.int _)⟩
def pyLt : D → D → M D
  | .int a, .int b => .ok (.bl (decide (a < b)))
  | .str a, .str b => .ok (.bl (decide (a.cps.toList < b.cps.toList)))
  | _, _ => .stk
def pyLe : D → D → M D
  | .int a, .int b => .ok (.bl (decide (a ≤ b)))
  | _, _ => .stk
def pyGt : D → D → M D
  | .int a, .int b => .ok (.bl (decide (b < a)))
  | _, _ => .stk
def pyGe : D → D → M D
  | .int a, .int b => .ok (.bl (decide (b ≤ a)))
  | _, _ => .stk
def rLtA : R2 := fun x y H Q => (∃ i j, x = .int i ∧ y = .int j ∧ Q (.bl (decide (i < j))) H) ∨ (∃ i j, x = .str i ∧ y = .str j ∧ Q (.bl (decide (i.cps.toList < j.cps.toList))) H)
theorem rm_lt : RM F rLtA pyLt := by
  intro x y vx vy σ S H Q ex rx ry p
  cases x <;> first
    | exact False.elim p
    | (cases y <;> first | exact False.elim p | (cases rx; cases ry; first | exact .inl ⟨_, _, rfl, rfl, p.ok ex _ (.bl _)⟩ | exact .inr ⟨_, _, rfl, rfl, p.ok ex _ (.bl _)⟩))
theorem op_ltA {X : Cx} : OpR X (compareOp .Lt) rLtA := op_lt.or op_lt_str
theorem rm_B {g : Int → Int → Bool} {f : D → D → M D} (h : ∀ (x y : D) (σ : L2.St) S H Q, Ex S H → Po F.G (WE F.W σ) S H (KE F Q) (f x y) → ∃ i j, x = .int i ∧ y = .int j ∧ KE F Q (.bl (g i j)) S H) : RM F (rI0 fun i j => .bl (g i j)) f := by
  intro x y vx vy σ S H Q ex rx ry p
  obtain ⟨i, j, rfl, rfl, q⟩ := h x y σ S H Q ex p
  cases rx; cases ry
  exact ⟨i, j, rfl, rfl, q _ (.bl _)⟩
theorem rm_le : RM F (rI0 fun i j => .bl (decide (i ≤ j))) pyLe := rm_B fun x y σ S H Q ex p => by
  cases x <;> first | exact False.elim p | (cases y <;> first | exact False.elim p | exact ⟨_, _, rfl, rfl, p.ok ex⟩)
theorem rm_gt : RM F (rI0 fun i j => .bl (decide (j < i))) pyGt := rm_B fun x y σ S H Q ex p => by
  cases x <;> first | exact False.elim p | (cases y <;> first | exact False.elim p | exact ⟨_, _, rfl, rfl, p.ok ex⟩)
theorem rm_ge : RM F (rI0 fun i j => .bl (decide (j ≤ i))) pyGe := rm_B fun x y σ S H Q ex p => by
  cases x <;> first | exact False.elim p | (cases y <;> first | exact False.elim p | exact ⟨_, _, rfl, rfl, p.ok ex⟩)
mutual
def toPy : D → Option PyData
  | .non => some .none
  | .bl b => some (.bool b)
  | .int i => some (.int i)
  | .str x => some (.str x)
  | .tup xs => (toPys xs).map .tuple
  | .ktp xs => (toPys xs).map .tuple
  | .lst xs => (toPys xs).map .list
  | _ => none
def toPys : List D → Option (List PyData)
  | [] => some []
  | d :: ds => match toPy d, toPys ds with
    | some p, some ps => some (p :: ps)
    | _, _ => none
end
def scalD : D → D → Bool
  | .non, .non => true | .non, .int _ => true | .int _, .non => true | .non, .bl _ => true | .bl _, .non => true | .non, .str _ => true | .str _, .non => true
  | .int _, .int _ => true | .bl _, .bl _ => true | .str _, .str _ => true
  | .int _, .str _ => true | .str _, .int _ => true | .bl _, .str _ => true | .str _, .bl _ => true
  | _, _ => false
def eqS : D → D → Bool
  | .non, .non => true
  | .int a, .int b => decide (a = b)
  | .bl a, .bl b => decide (a = b)
  | .str a, .str b => decide (a = b)
  | _, _ => false
def eqD (x y : D) : M Bool := if scalD x y then .ok (eqS x y) else match toPy x, toPy y with
  | some p, some q => if SeqAt.shaped p = true ∧ SeqAt.shaped q = true then .ok (PyData.eqv p q) else .stk
  | _, _ => .stk
def pyEq (x y : D) : M D := b1 (fun b => .ok (.bl b)) (eqD x y)
def pyNe (x y : D) : M D := b1 (fun b => .ok (.bl (!b))) (eqD x y)
mutual
theorem rep_dp {G : GG} {S : Hp} : ∀ {d : D} {v : V} {p : PyData}, Rep G S v d → toPy d = some p → Dp G.K S v p
  | .non, _, _, h, e => by cases h; cases e; exact .non
  | .bl b, _, _, h, e => by cases h; cases e; exact .bl _
  | .int b, _, _, h, e => by cases h; cases e; exact .int _
  | .str b, _, _, h, e => by cases h; cases e; exact .str _
  | .tup xs, _, p, h, e => by
    cases h with
    | tup h r =>
      unfold toPy at e
      cases q : toPys xs with
      | none => rw [q] at e; cases e
      | some ps => rw [q] at e; cases e; exact .tup (SqT.of h) (reps_dp r q)
  | .lst xs, _, p, h, e => by
    cases h with
    | lst h r =>
      unfold toPy at e
      cases q : toPys xs with
      | none => rw [q] at e; cases e
      | some ps => rw [q] at e; cases e; exact .lst (SqL.of h) (reps_dp r q)
  | .adr _, _, _, _, e => by cases e
  | .ktp xs, _, p, h, e => by
    cases h with
    | kt hq r =>
      unfold toPy at e
      cases q : toPys xs with
      | none => rw [q] at e; cases e
      | some ps => rw [q] at e; cases e; exact .tup (.inr hq) (reps_dp r.reps q)
  | .scr _, _, _, _, e => by cases e
  | .dct _, _, _, _, e => by cases e
  | .dks _, _, _, _, e => by cases e
  | .obj _ _, _, _, _, e => by cases e
  | .slf _ _ _, _, _, _, e => by cases e
theorem reps_dp {G : GG} {S : Hp} : ∀ {ds : List D} {vs : List V} {ps : List PyData}, Reps G S vs ds → toPys ds = some ps → DpAll G.K S vs ps
  | [], _, _, r, e => by cases r; cases e; exact .nil
  | d :: ds, _, _, r, e => by
    cases r with
    | cons h r =>
      unfold toPys at e
      cases q : toPy d with
      | none => rw [q] at e; cases e
      | some p => cases q2 : toPys ds with
        | none => rw [q, q2] at e; cases e
        | some ps => rw [q, q2] at e; cases e; exact .cons (rep_dp h q) (reps_dp r q2)
end
def rEqA (K : PySem.W.Frag) : R2 := fun x y H Q => rEq x y H Q ∨ rEqD K x y H Q
def rNeA (K : PySem.W.Frag) : R2 := fun x y H Q => rNe x y H Q ∨ rNeD K x y H Q
theorem scal_of {G : GG} {S : Hp} {x y : D} {vx vy : V} (rx : Rep G S vx x) (ry : Rep G S vy y) (h : scalD x y = true) : scal vx vy = true ∧ decide (vx = vy) = eqS x y := by
  cases rx <;> first | (exact absurd h Bool.false_ne_true) | (cases ry <;> first | (exact absurd h Bool.false_ne_true) | exact ⟨rfl, by simp [eqS]⟩)
theorem rm_eq : RM F (rEqA F.G.K) pyEq := by
  intro x y vx vy σ S H Q ex rx ry p
  unfold pyEq eqD at p
  split at p
  · rename_i h
    obtain ⟨h1, h2⟩ := scal_of rx ry h
    refine .inl ⟨h1, ?_⟩
    rw [h2]
    exact (show Po F.G (WE F.W σ) S H (KE F Q) (.ok (.bl (eqS x y))) from p).ok ex _ (.bl _)
  · split at p
    · rename_i q1 q2
      split at p
      · rename_i hs
        exact .inr ⟨_, _, rep_dp (rx.mono ex) q1, rep_dp (ry.mono ex) q2, hs.1, hs.2, (show Po F.G (WE F.W σ) S H (KE F Q) (.ok (.bl _)) from p).ok ex _ (.bl _)⟩
      · exact False.elim p
    · exact False.elim p
theorem rm_ne : RM F (rNeA F.G.K) pyNe := by
  intro x y vx vy σ S H Q ex rx ry p
  unfold pyNe eqD at p
  split at p
  · rename_i h
    obtain ⟨h1, h2⟩ := scal_of rx ry h
    refine .inl ⟨h1, ?_⟩
    rw [h2]
    exact (show Po F.G (WE F.W σ) S H (KE F Q) (.ok (.bl (!eqS x y))) from p).ok ex _ (.bl _)
  · split at p
    · rename_i q1 q2
      split at p
      · rename_i hs
        exact .inr ⟨_, _, rep_dp (rx.mono ex) q1, rep_dp (ry.mono ex) q2, hs.1, hs.2, (show Po F.G (WE F.W σ) S H (KE F Q) (.ok (.bl _)) from p).ok ex _ (.bl _)⟩
      · exact False.elim p
    · exact False.elim p
end
end Mir
namespace Mir
open PySem PySem.Spec L2
theorem PE_or {X : Cx} {e : Expr} {t u : TE} (h : PE X e t) (k : PE X e u) : PE X e (fun σ H Q => t σ H Q ∨ u σ H Q) :=
  ⟨fun pins s σ H Q I q => q.elim (h.run pins s σ H Q I) (k.run pins s σ H Q I)⟩
def pyTruth : D → M Bool
  | .non => .ok false
  | .bl b => .ok b
  | .int i => .ok (i != 0)
  | .str y => if y.length ≤ sizeLine then .ok ((y.length : Int) != 0) else .stk
  | .tup xs => .ok (!xs.isEmpty)
  | .lst xs => .ok (!xs.isEmpty)
  | _ => .stk
theorem reps_empty {G : GG} {S : Hp} {vs : List V} {ds : List D} (r : Reps G S vs ds) : vs.isEmpty = ds.isEmpty := by cases r <;> rfl
theorem truV {G : GG} {E : XK} {S H : Hp} {v : V} {d : D} {Q : Bool → Hp → Prop} (ex : Ex S H) (r : Rep G S v d) (p : Po G E S H (KT Q) (pyTruth d)) : ∃ k, TruV G.K v H k ∧ Q k H := by
  cases r with
  | non => exact ⟨_, rfl, p.ok ex⟩
  | bl b => exact ⟨_, rfl, p.ok ex⟩
  | int i => exact ⟨_, rfl, p.ok ex⟩
  | str y =>
    obtain ⟨hc, p⟩ := Po.gate (m := M.ok ((y.length : Int) != 0)) p
    exact ⟨_, ⟨hc, rfl⟩, p.ok ex⟩
  | tup h r => exact ⟨_, .inr (.inl ⟨_, SqT.of (ex _ _ h), rfl⟩), by rw [reps_empty r]; exact p.ok ex⟩
  | lst h r => exact ⟨_, .inl ⟨_, SqL.of (ex _ _ h), rfl⟩, by rw [reps_empty r]; exact p.ok ex⟩
  | _ => exact False.elim p
section
variable {F : Fm} {Γ : Gam} {a b c e : Expr} {es rest : List Expr} {ma mb mc m : M D} {mt mu : M Bool} {ms : List (M D)} {pos : Pos}
theorem em_or {e : Expr} {m : M D} {t u : TE} (h : ∀ X, F.Xs X → PE X e t) (k : ∀ X, F.Xs X → PE X e u) (hv : EvM F (fun σ H Q => t σ H Q ∨ u σ H Q) Γ m) : EM F e Γ m :=
  ⟨_, fun X hX => PE_or (h X hX) (k X hX), hv⟩
theorem tm_val (he : EM F e Γ m) (hp : ∀ X, F.Xs X → ∀ whole, isTrue e X.env whole = (do let v ← whole; standAt e.pos; holding [v] (truthy v))) : TM F e Γ (b1 pyTruth m) := by
  obtain ⟨t, pt, et⟩ := he
  refine ⟨fun σ H Q => t σ H fun x H' => ∃ k, TruV F.G.K x H' k ∧ Q k H', fun X hX => ?_, fun H0 σ S H Q hh p => ?_⟩
  · have h := pt_truth (pt X hX) (hp X hX)
    rw [F.hK X hX] at h
    exact h
  · exact et H0 σ S H _ hh (Po.bind p |>.imp fun d S' H' g q v r => truV g.sub r q)
def andM (a b : M Bool) : M Bool := a.bind fun c => if c = true then b else .ok false
def orM (a b : M Bool) : M Bool := a.bind fun c => if c = true then .ok true else b
def notM (a : M Bool) : M Bool := a.bind fun c => .ok (!c)
theorem wm_and1 (ha : TM F a Γ mt) : WM F (.BoolOp .And [a] pos) Γ mt := by
  obtain ⟨t, p, e⟩ := ha
  exact ⟨t, fun X hX => pw_and1 (p X hX), e⟩
theorem wm_or1 (ha : TM F a Γ mt) : WM F (.BoolOp .Or [a] pos) Γ mt := by
  obtain ⟨t, p, e⟩ := ha
  exact ⟨t, fun X hX => pw_or1 (p X hX), e⟩
theorem wm_and (ha : TM F a Γ mt) (hb : WM F (.BoolOp .And (b :: rest) pos) Γ mu) : WM F (.BoolOp .And (a :: b :: rest) pos) Γ (andM mt mu) := by
  obtain ⟨t, p, e⟩ := ha
  obtain ⟨u, q, f⟩ := hb
  refine ⟨tAnd t u, fun X hX => pw_and (p X hX) (q X hX), fun H0 σ S H Q hh po => ?_⟩
  refine e H0 σ S H _ hh (Po.bind po |>.imp fun c S' H' g k => ?_)
  cases c with
  | true => exact iteT (f H0 σ S' H' Q (hh.grow g) k)
  | false => exact iteF (Po.ok (a := false) g.sub k)
theorem wm_or (ha : TM F a Γ mt) (hb : WM F (.BoolOp .Or (b :: rest) pos) Γ mu) : WM F (.BoolOp .Or (a :: b :: rest) pos) Γ (orM mt mu) := by
  obtain ⟨t, p, e⟩ := ha
  obtain ⟨u, q, f⟩ := hb
  refine ⟨tOr t u, fun X hX => pw_or (p X hX) (q X hX), fun H0 σ S H Q hh po => ?_⟩
  refine e H0 σ S H _ hh (Po.bind po |>.imp fun c S' H' g k => ?_)
  cases c with
  | true => exact iteT (Po.ok (a := true) g.sub k)
  | false => exact iteF (f H0 σ S' H' Q (hh.grow g) k)
theorem tm_w (h : WM F e Γ mt) : TM F e Γ mt := by
  obtain ⟨t, p, e⟩ := h
  exact ⟨t, fun X hX => (p X hX).pt, e⟩
theorem tm_not (ha : TM F a Γ mt) : TM F (.UnaryOp .Not a pos) Γ (notM mt) := by
  obtain ⟨t, p, e⟩ := ha
  refine ⟨tNot t, fun X hX => pt_not (p X hX), fun H0 σ S H Q hh po => ?_⟩
  exact e H0 σ S H _ hh (Po.bind po |>.imp fun c S' H' g k => Po.ok (a := !c) g.sub k)
def andV (a b : M D) : M D := a.bind fun d => (isB d).bind fun c => if c = true then b else .ok (.bl false)
def orV (a b : M D) : M D := a.bind fun d => (isB d).bind fun c => if c = true then .ok (.bl true) else b
theorem isB_of {G : GG} {E : XK} {S H : Hp} {v : V} {d : D} {α : Type} {K : α → Hp → Hp → Prop} {k : Bool → M α} (ex : Ex S H) (r : Rep G S v d) (p : Po G E S H K ((isB d).bind k)) : ∃ c, v = .bl c ∧ Po G E S H K (k c) := by
  cases r with
  | bl b => exact ⟨b, rfl, p⟩
  | _ => exact False.elim p
theorem em_one {op} (ha : EM F a Γ m) : EM F (.BoolOp op [a] pos) Γ m := by
  obtain ⟨t, p, e⟩ := ha
  exact ⟨t, fun X hX => pe_one (p X hX), e⟩
theorem em_and (ha : EM F a Γ ma) (hb : EM F (.BoolOp .And (b :: rest) pos) Γ mb) : EM F (.BoolOp .And (a :: b :: rest) pos) Γ (andV ma mb) := by
  obtain ⟨t, p, e⟩ := ha
  obtain ⟨u, q, f⟩ := hb
  refine ⟨tAndV t u, fun X hX => pe_and (p X hX) (q X hX), fun H0 σ S H Q hh po => ?_⟩
  refine e H0 σ S H _ hh (Po.bind po |>.imp fun d S' H' g k v r => ?_)
  obtain ⟨c, rfl, k⟩ := isB_of g.sub r k
  refine ⟨c, rfl, ?_⟩
  cases c with
  | true => exact iteT (f H0 σ S' H' Q (hh.grow g) k)
  | false => exact iteF (Po.ok (a := D.bl false) g.sub k _ (.bl _))
theorem em_orv (ha : EM F a Γ ma) (hb : EM F (.BoolOp .Or (b :: rest) pos) Γ mb) : EM F (.BoolOp .Or (a :: b :: rest) pos) Γ (orV ma mb) := by
  obtain ⟨t, p, e⟩ := ha
  obtain ⟨u, q, f⟩ := hb
  refine ⟨tOrV t u, fun X hX => L2.pe_or (p X hX) (q X hX), fun H0 σ S H Q hh po => ?_⟩
  refine e H0 σ S H _ hh (Po.bind po |>.imp fun d S' H' g k v r => ?_)
  obtain ⟨c, rfl, k⟩ := isB_of g.sub r k
  refine ⟨c, rfl, ?_⟩
  cases c with
  | true => exact iteT (Po.ok (a := D.bl true) g.sub k _ (.bl _))
  | false => exact iteF (f H0 σ S' H' Q (hh.grow g) k)
def ifM {α : Type} (c : M Bool) (a b : M α) : M α := c.bind fun c => if c = true then a else b
theorem em_if (hc : TM F c Γ mt) (ha : EM F a Γ ma) (hb : EM F b Γ mb) : EM F (.IfExp c a b pos) Γ (ifM mt ma mb) := by
  obtain ⟨t, p, e⟩ := hc
  obtain ⟨u, q, f⟩ := ha
  obtain ⟨w, r, g⟩ := hb
  refine ⟨tIf t u w, fun X hX => pe_ifExp (p X hX) (q X hX) (r X hX), fun H0 σ S H Q hh po => ?_⟩
  refine e H0 σ S H _ hh (Po.bind po |>.imp fun c S' H' gr k => ?_)
  cases c with
  | true => exact iteT (f H0 σ S' H' Q (hh.grow gr) k)
  | false => exact iteF (g H0 σ S' H' Q (hh.grow gr) k)
def chM (f g : D → D → M D) (a b c : M D) : M D := a.bind fun x => b.bind fun y => (f x y).bind fun z => (isB z).bind fun k => if k = true then c.bind fun w => g y w else .ok (.bl false)
theorem ev_chain {r r' : R2} {f g : D → D → M D} {ta tb tc : TE} (hf : RM F r f) (hg : RM F r' g) (ea : EvM F ta Γ ma) (eb : EvM F tb Γ mb) (ec : EvM F tc Γ mc) : EvM F (tChain r r' ta tb tc) Γ (chM f g ma mb mc) := by
  intro H0 σ S H Q hh p
  refine ea H0 σ S H _ hh (Po.bind p |>.imp fun x S1 H1 g1 q1 vx rx => ?_)
  refine eb H0 σ S1 H1 _ (hh.grow g1) (Po.bind q1 |>.imp fun y S2 H2 g2 q2 vy ry => ?_)
  refine hf x y vx vy σ S2 H2 _ g2.sub (rx.mono g2.s) ry (Po.bind q2 |>.imp fun z S3 H3 g3 q3 vz rz => ?_)
  obtain ⟨k, rfl, q3⟩ := isB_of g3.sub rz q3
  refine ⟨k, rfl, ?_⟩
  cases k with
  | true =>
    have q3 : Po F.G (WE F.W σ) S3 H3 (KE F Q) (mc.bind fun w => g y w) := q3
    exact iteT (ec H0 σ S3 H3 _ (hh.grow (g1.trans (g2.trans g3))) (Po.bind q3 |>.imp fun w S4 H4 g4 q4 vw rw' => hg y w vy vw σ S4 H4 Q g4.sub ((ry.mono g3.s).mono g4.s) rw' q4))
  | false => exact iteF (Po.ok (a := D.bl false) g3.sub q3 _ (.bl _))
theorem tm_chain {op op' : CmpOp} {r r' : R2} {f g : D → D → M D} (ho : ∀ X, F.Xs X → OpR X (compareOp op) r) (hf : RM F r f) (ho' : ∀ X, F.Xs X → OpR X (compareOp op') r') (hg : RM F r' g) (ha : EM F a Γ ma) (hb : EM F b Γ mb) (hc : EM F c Γ mc)
    (hm : lastMarks [op, op'] [b, c] = false := by with_unfolding_all rfl) : TM F (.Compare a [op, op'] [b, c] pos) Γ (b1 isB (chM f g ma mb mc)) := by
  obtain ⟨ta, pa, ea⟩ := ha
  obtain ⟨tb, pb, eb⟩ := hb
  obtain ⟨tc, pc, ec⟩ := hc
  refine ⟨tTest (tChain r r' ta tb tc), fun X hX => pt_chain (ho X hX) (ho' X hX) (pa X hX) (pb X hX) (pc X hX) hm, fun H0 σ S H Q hh p => ?_⟩
  refine ev_chain hf hg ea eb ec H0 σ S H _ hh (Po.bind p |>.imp fun d S' H' g q v r => ?_)
  cases r with
  | bl k => exact ⟨k, rfl, Po.ok g.sub q⟩
  | _ => exact False.elim q
def mlist {α : Type} : List (M α) → M (List α)
  | [] => .ok []
  | m :: ms => m.bind fun d => (mlist ms).bind fun ds => .ok (d :: ds)
theorem am_nil : AM F [] Γ (mlist []) := ⟨_, fun X _ => pa_nil, fun H0 σ S H Q hh p => Po.ok hh.ex p [] .nil⟩
theorem am_cons (ha : EM F e Γ m) (hr : AM F es Γ (mlist ms)) (hs : ∀ X, F.Xs X → starEach (e :: es) X.env = (false, eval e X.env) :: starEach es X.env := by intros; rfl) : AM F (e :: es) Γ (mlist (m :: ms)) := by
  obtain ⟨t, p, f⟩ := ha
  obtain ⟨u, q, g⟩ := hr
  refine ⟨tCons t u, fun X hX => pa_cons (p X hX) (q X hX) (hs X hX), fun H0 σ S H Q hh po => ?_⟩
  refine f H0 σ S H _ hh (Po.bind po |>.imp fun d S1 H1 g1 k v r => ?_)
  refine g H0 σ S1 H1 _ (hh.grow g1) (Po.bind k |>.imp fun ds S2 H2 g2 k2 vs rs => ?_)
  exact Po.ok g2.sub k2 (v :: vs) (.cons (r.mono g2.s) rs)
def mkTup (ds : List D) : M D := if ds.length ≤ sizeLine then .ok (.tup ds) else .stk
def mkLst (ds : List D) : M D := if ds.length ≤ sizeLine then .ok (.lst ds) else .stk
theorem ev_newT {G : GG} {E : XK} {S H : Hp} {F : Fm} {Q : VK} {vs : List V} {ds : List D} (ex : Ex S H) (r : Reps F.G S vs ds) (p : Po F.G E S H (KE F Q) (.ok (.tup ds))) : ∀ q, H q = none → Q (.ref q) (upd H q (.tup vs)) := fun q hq => by
  have g := Grow.new (o := HO.tup vs) ex hq
  exact p _ _ g _ (.tup upd_same (r.mono g.s))
theorem ev_newL {G : GG} {E : XK} {S H : Hp} {F : Fm} {Q : VK} {vs : List V} {ds : List D} (ex : Ex S H) (r : Reps F.G S vs ds) (p : Po F.G E S H (KE F Q) (.ok (.lst ds))) : ∀ q, H q = none → Q (.ref q) (upd H q (.lst vs)) := fun q hq => by
  have g := Grow.new (o := HO.lst vs) ex hq
  exact p _ _ g _ (.lst upd_same (r.mono g.s))
theorem em_tup {x1} {ml : M (List D)} (h : AM F es Γ ml) : EM F (.Tuple es x1 pos) Γ (b1 mkTup ml) := by
  obtain ⟨t, p, f⟩ := h
  refine ⟨tTup t, fun X hX => pe_tup (p X hX), fun H0 σ S H Q hh po => ?_⟩
  refine f H0 σ S H _ hh (Po.bind po |>.imp fun ds S1 H1 g1 k vs r => ?_)
  obtain ⟨hl, k⟩ := Po.gate (m := M.ok (D.tup ds)) k
  exact ⟨by rw [r.length]; exact hl, ev_newT (G := F.G) g1.sub r k⟩
theorem em_lst {ml : M (List D)} (h : AM F es Γ ml) : EM F (.List es pos) Γ (b1 mkLst ml) := by
  obtain ⟨t, p, f⟩ := h
  refine ⟨tLst t, fun X hX => pe_lst (p X hX), fun H0 σ S H Q hh po => ?_⟩
  refine f H0 σ S H _ hh (Po.bind po |>.imp fun ds S1 H1 g1 k vs r => ?_)
  obtain ⟨hl, k⟩ := Po.gate (m := M.ok (D.lst ds)) k
  exact ⟨by rw [r.length]; exact hl, ev_newL (G := F.G) g1.sub r k⟩
def spM (G : GG) (m : List D → M D) : Sp := fun vs H Q E => ∃ S ds, Ex S H ∧ Reps G S vs ds ∧ Po G E S H (fun d S' H' => ∀ v, Rep G S' v d → Q v H') (m ds)
def Kn (G : GG) (k : Nat) (x : Str) (m : List D → M D) : Prop := ∃ f fd ps j, j ≤ k ∧ FnOk G.P G.w G.K G.mg G.base (L2N.CX G.P G.w) j f fd ps (spM G m) ∧ G.mg x = some (.ref f) ∧ PySem.W.keepIn G.K (.ref f) = true ∧ Binds G.K fd ps []
theorem Kn.mono {G : GG} {j k : Nat} {x : Str} {m : List D → M D} (h : Kn G j x m) (l : j ≤ k) : Kn G k x m := by
  obtain ⟨f, fd, ps, i, hi, r⟩ := h
  exact ⟨f, fd, ps, i, Nat.le_trans hi l, r⟩
theorem em_call {x : Str} {p : Pos} {m : List D → M D} {ml : M (List D)} (kn : Kn F.G F.k x m) (hcm : F.cm = true) (hg : F.kd.lookup x = some .globalImplicit) (ha : AM F (e :: es) Γ ml) (hdb : (x == ("__debug__" : Str)) = false := by decide)
    (he : ∀ X, F.Xs X → starEach (e :: es) X.env = (false, eval e X.env) :: starEach es X.env := by intros; rfl) (hpl : ∀ X, F.Xs X → (backTo pos (starEach es X.env)).any (·.1) = false := by intros; rfl) : EM F (.Call (.Name x p) (e :: es) [] pos) Γ (b1 m ml) := by
  obtain ⟨t, q, g⟩ := ha
  refine ⟨tCallS (spM F.G m) (WE F.W) t, fun X hX => ?_, fun H0 σ S H Q hh po => ?_⟩
  · obtain ⟨f, fd, ps, j, hj, ok, hm, hk, hb⟩ := kn
    obtain ⟨h1, h2, h3, h4, h5, _⟩ := F.hX X hX
    rw [← h1, ← h2, ← h3, ← h4, ← h5] at ok
    rw [← h4] at hm
    rw [← h3] at hk hb
    exact pe_callS ok ((F.hr hcm X hX).mono hj) (F.gl X hX hg) hm hk hb (fun σ => L2N.passAt (F.tk X hX) σ) (q X hX) hdb (he X hX) (hpl X hX)
  · exact g H0 σ S H _ hh (Po.bind po |>.imp fun ds S1 H1 g1 k vs r => ⟨S1, ds, g1.sub, r, k⟩)
def CM (F : Fm) (r : List V → Hp → VK → Prop) (f : List D → M D) : Prop := ∀ (ds : List D) (vs : List V) (E : XK) S H Q, Ex S H → Reps F.G S vs ds → Po F.G E S H (KE F Q) (f ds) → r vs H Q
theorem em_callB {x : Str} {p : Pos} {id : String} {r : List V → Hp → VK → Prop} {f : List D → M D} {ml : M (List D)} (hc : ∀ X, F.Xs X → CallR X (.builtin id) r) (hf : CM F r f) (hg : F.kd.lookup x = some .globalImplicit) (hm : F.G.mg x = none) (hv : bootBuiltins x = some (.builtin id)) (ha : AM F (e :: es) Γ ml)
    (hn : x ≠ "__name__" := by decide) (hdb : (x == ("__debug__" : Str)) = false := by decide)
    (he : ∀ X, F.Xs X → starEach (e :: es) X.env = (false, eval e X.env) :: starEach es X.env := by intros; rfl) (hpl : ∀ X, F.Xs X → (backTo pos (starEach es X.env)).any (·.1) = false := by intros; rfl) : EM F (.Call (.Name x p) (e :: es) [] pos) Γ (b1 f ml) := by
  obtain ⟨t, q, g⟩ := ha
  exact ⟨tCB r t, fun X hX => pe_callB (hc X hX) (F.gl X hX hg) (by rw [(F.hX X hX).2.2.2.1]; exact hm) hv (q X hX) hn hdb (he X hX) (hpl X hX), fun H0 σ S H Q hh po => g H0 σ S H _ hh (Po.bind po |>.imp fun ds S1 H1 g1 k vs r => hf ds vs _ S1 H1 Q g1.sub r k)⟩
theorem em_callTy {x : Str} {p : Pos} {T : String} {r : List V → Hp → VK → Prop} {f : List D → M D} {ml : M (List D)} (hc : ∀ X, F.Xs X → CallR X (.type T) r) (hf : CM F r f) (hg : F.kd.lookup x = some .globalImplicit) (hm : F.G.mg x = none) (hv : bootBuiltins x = some (.type T)) (ha : AM F (e :: es) Γ ml)
    (hn : x ≠ "__name__" := by decide) (hdb : (x == ("__debug__" : Str)) = false := by decide)
    (he : ∀ X, F.Xs X → starEach (e :: es) X.env = (false, eval e X.env) :: starEach es X.env := by intros; rfl) (hpl : ∀ X, F.Xs X → (backTo pos (starEach es X.env)).any (·.1) = false := by intros; rfl) : EM F (.Call (.Name x p) (e :: es) [] pos) Γ (b1 f ml) := by
  obtain ⟨t, q, g⟩ := ha
  exact ⟨tCB r t, fun X hX => pe_callTy (hc X hX) (F.gl X hX hg) (by rw [(F.hX X hX).2.2.2.1]; exact hm) hv (q X hX) hn hdb (he X hX) (hpl X hX), fun H0 σ S H Q hh po => g H0 σ S H _ hh (Po.bind po |>.imp fun ds S1 H1 g1 k vs r => hf ds vs _ S1 H1 Q g1.sub r k)⟩
def pyLen : List D → M D
  | [.str y] => if y.length ≤ sizeLine then .ok (.int y.length) else .stk
  | [.lst xs] => .ok (.int xs.length)
  | [.tup xs] => .ok (.int xs.length)
  | [.ktp xs] => .ok (.int xs.length)
  | [.scr xs] => .ok (.int xs.length)
  | _ => .stk
theorem reps1 {G : GG} {S : Hp} {vs : List V} {d : D} (r : Reps G S vs [d]) : ∃ v, vs = [v] ∧ Rep G S v d := by
  cases r with
  | cons h r => cases r; exact ⟨_, rfl, h⟩
theorem reps2 {G : GG} {S : Hp} {vs : List V} {d e : D} (r : Reps G S vs [d, e]) : ∃ v w, vs = [v, w] ∧ Rep G S v d ∧ Rep G S w e := by
  cases r with
  | cons h r => cases r with
    | cons k r => cases r; exact ⟨_, _, rfl, h, k⟩
theorem cm_len : CM F (fun xs H Q => ∃ x n, xs = [x] ∧ LenV F.G.K x H n ∧ Q (.int n) H) pyLen := by
  intro ds vs E S H Q ex r p
  match ds, r, p with
  | [.str y], r, p =>
    obtain ⟨v, rfl, h⟩ := reps1 r
    obtain ⟨hl, p⟩ := Po.gate (m := M.ok (D.int y.length)) p
    cases h
    exact ⟨_, _, rfl, ⟨hl, rfl⟩, p.ok ex _ (.int _)⟩
  | [.lst xs], r, p =>
    obtain ⟨v, rfl, h⟩ := reps1 r
    cases h with
    | lst h r => exact ⟨_, _, rfl, .inl ⟨_, SqL.of (ex _ _ h), rfl⟩, by rw [r.length]; exact p.ok ex _ (.int _)⟩
  | [.tup xs], r, p =>
    obtain ⟨v, rfl, h⟩ := reps1 r
    cases h with
    | tup h r => exact ⟨_, _, rfl, .inr ⟨_, SqT.of (ex _ _ h), rfl⟩, by rw [r.length]; exact p.ok ex _ (.int _)⟩
  | [.ktp xs], r, p =>
    obtain ⟨v, rfl, h⟩ := reps1 r
    cases h with
    | kt hq r => exact ⟨_, _, rfl, .inr ⟨_, .inr hq, rfl⟩, by rw [(r.reps (S := H)).length]; exact p.ok ex _ (.int _)⟩
  | [.scr xs], r, p =>
    obtain ⟨v, rfl, h⟩ := reps1 r
    cases h with
    | scr h => exact ⟨_, _, rfl, .inl ⟨_, ex_l ex h, rfl⟩, by rw [List.length_map]; exact p.ok ex _ (.int _)⟩
theorem em_len {p : Pos} {ml : M (List D)} (hg : F.kd.lookup ("len" : Str) = some NameKind.globalImplicit) (hm : F.G.mg "len" = none) (ha : AM F (e :: es) Γ ml)
    (he : ∀ X, F.Xs X → starEach (e :: es) X.env = (false, eval e X.env) :: starEach es X.env := by intros; rfl) (hpl : ∀ X, F.Xs X → (backTo pos (starEach es X.env)).any (·.1) = false := by intros; rfl) : EM F (.Call (.Name "len" p) (e :: es) [] pos) Γ (b1 pyLen ml) :=
  em_callB (r := fun xs H Q => ∃ x n, xs = [x] ∧ LenV F.G.K x H n ∧ Q (.int n) H) (fun X hX => by have h := call_len (X := X); rw [F.hK X hX] at h; exact h) cm_len hg hm PySem.boot_len ha (by decide) (by decide) he hpl
def pyInt : List D → M D
  | [.int i] => .ok (.int i)
  | [.bl b] => .ok (.int (if b then 1 else 0))
  | _ => .stk
theorem cm_int : CM F (fun xs H Q => (∃ i, xs = [.int i] ∧ Q (.int i) H) ∨ ∃ k, xs = [.bl k] ∧ Q (.int (if k then 1 else 0)) H) pyInt := by
  intro ds vs E S H Q ex r p
  match ds, r, p with
  | [.int y], r, p =>
    obtain ⟨v, rfl, h⟩ := reps1 r
    cases h
    exact .inl ⟨_, rfl, p.ok ex _ (.int _)⟩
  | [.bl y], r, p =>
    obtain ⟨v, rfl, h⟩ := reps1 r
    cases h
    exact .inr ⟨_, rfl, p.ok ex _ (.int _)⟩
theorem em_int_of {p : Pos} {ml : M (List D)} (hg : F.kd.lookup ("int" : Str) = some NameKind.globalImplicit) (hm : F.G.mg "int" = none) (ha : AM F (e :: es) Γ ml)
    (he : ∀ X, F.Xs X → starEach (e :: es) X.env = (false, eval e X.env) :: starEach es X.env := by intros; rfl) (hpl : ∀ X, F.Xs X → (backTo pos (starEach es X.env)).any (·.1) = false := by intros; rfl) : EM F (.Call (.Name "int" p) (e :: es) [] pos) Γ (b1 pyInt ml) :=
  em_callTy (r := fun xs H Q => (∃ i, xs = [.int i] ∧ Q (.int i) H) ∨ ∃ k, xs = [.bl k] ∧ Q (.int (if k then 1 else 0)) H) (fun X hX => call_int1) cm_int hg hm (by decide +kernel) ha (by decide) (by decide) he hpl
def valD {κ : Type} [DecidableEq κ] (kvs : List (κ × D)) (k : κ) : Option D := (kvs.find? fun kv => decide (kv.1 = k)).map (·.2)
def keyOf : D → Option Key
  | .int i => some (.inl i)
  | .str x => some (.inr x)
  | _ => none
def keysOf : List D → Option (List Key)
  | [] => some []
  | d :: ds => match keyOf d, keysOf ds with
    | some k, some ks => some (k :: ks)
    | _, _ => none
def ofOpt {α : Type} : Option α → M α
  | some a => .ok a
  | none => .stk
def pyIx : D → D → M D
  | .str z, .int i => if z.length ≤ sizeLine then (ofOpt (atI z.cps.toList i)).bind fun c => .ok (.str ⟨#[c]⟩) else .stk
  | .lst xs, .int i => ofOpt (atI xs i)
  | .tup xs, .int i => ofOpt (atI xs i)
  | .ktp xs, .int i => ofOpt (atI xs i)
  | .dct kvs, .tup ks => (ofOpt (keysOf ks)).bind fun k => ofOpt (valD kvs k)
  | .dks kvs, .int i => ofOpt (valD kvs (.inl i))
  | .dks kvs, .str i => ofOpt (valD kvs (.inr i))
  | _, _ => .stk
theorem Po.opt {G : GG} {E : XK} {α β : Type} {S H : Hp} {K : β → Hp → Hp → Prop} {o : Option α} {k : α → M β} (p : Po G E S H K ((ofOpt o).bind k)) : ∃ a, o = some a ∧ Po G E S H K (k a) := by
  cases o with
  | none => exact False.elim p
  | some a => exact ⟨a, rfl, p⟩
theorem Po.opt0 {G : GG} {E : XK} {α : Type} {S H : Hp} {K : α → Hp → Hp → Prop} {o : Option α} (p : Po G E S H K (ofOpt o)) : ∃ a, o = some a ∧ Po G E S H K (.ok a) := by
  cases o with
  | none => exact False.elim p
  | some a => exact ⟨a, rfl, p⟩
theorem reps_at {G : GG} {S : Hp} {vs : List V} {ds : List D} {i : Int} {d : D} (r : Reps G S vs ds) (h : atI ds i = some d) : ∃ v, atI vs i = some v ∧ Rep G S v d := by
  unfold atI at h ⊢
  rw [r.length]
  cases q : ixN ds.length i with
  | none => rw [q] at h; cases h
  | some j =>
    rw [q] at h
    exact r.get h
theorem reps_key {G : GG} {S : Hp} : ∀ {ds : List D} {vs : List V} {k : List Key}, Reps G S vs ds → keysOf ds = some k → vs = k.map kV
  | [], _, _, .nil, e => by cases e; rfl
  | d :: ds, _, _, .cons h r, e => by
    unfold keysOf at e
    split at e
    · rename_i q1 q2
      cases e
      have h2 := reps_key r q2
      cases h <;> first | (cases q1; rw [h2]; rfl) | cases q1
    · cases e
theorem valD_find {G : GG} {S : Hp} {κ : Type} [DecidableEq κ] : ∀ {ks : List (κ × V)} {kvs : List (κ × D)} {k : κ} {d : D}, ks.map (·.1) = kvs.map (·.1) → Reps G S (ks.map (·.2)) (kvs.map (·.2)) → valD kvs k = some d → ∃ v, valV ks k = some v ∧ Rep G S v d
  | [], [], k, d, _, _, e => by cases e
  | (a, v) :: ks, (b, x) :: kvs, k, d, n, .cons h r, e => by
    obtain ⟨n1, n2⟩ := List.cons.inj n
    have n1 : a = b := n1
    subst n1
    unfold valD at e
    unfold valV
    rw [List.find?_cons] at e ⊢
    by_cases q : a = k
    · simp only [q, decide_true] at e ⊢
      cases e
      exact ⟨_, rfl, h⟩
    · simp only [q, decide_false] at e ⊢
      exact valD_find n2 r e
theorem ev2x {ta tb : TE} {x : D} {R : V → V → Hp → Prop} {H0 : Hp} {σ : L2.St} {S H : Hp} {K : D → Hp → Hp → Prop} {f : D → D → M D} (ha : EvM F ta Γ (.ok x)) (hb : EvM F tb Γ mb) (hh : Holds F.G H0 σ S H Γ) (p : Po F.G (WE F.W σ) S H K (b2 f (.ok x) mb))
    (h : ∀ y vx vy S2 H2, Grow S H S2 H2 → Rep F.G S2 vx x → Rep F.G S2 vy y → Po F.G (WE F.W σ) S2 H2 K (f x y) → R vx vy H2) : ta σ H fun x H1 => tb σ H1 fun y H2 => R x y H2 := by
  refine ha H0 σ S H _ hh (fun S1 H1 g1 vx rx => ?_)
  have p : Po F.G (WE F.W σ) S H K (mb.bind fun y => f x y) := p
  refine hb H0 σ S1 H1 _ (hh.grow g1) (Po.bind (p.step g1) |>.imp fun y S2 H2 g2 q2 vy ry => ?_)
  exact h y vx vy S2 H2 (g1.trans g2) (rx.mono g2.s) ry q2
theorem ev2e {ta tb : TE} {e : Exc} {R : V → V → Hp → Prop} {H0 : Hp} {σ : L2.St} {S H : Hp} {K : D → Hp → Hp → Prop} {f : D → D → M D} (ha : EvM F ta Γ (.exn e)) (hh : Holds F.G H0 σ S H Γ) (p : Po F.G (WE F.W σ) S H K (b2 f (.exn e) mb)) :
    ta σ H fun x H1 => tb σ H1 fun y H2 => R x y H2 := ha H0 σ S H _ hh p
theorem em_ix (ha : EM F a Γ ma) (hb : EM F b Γ mb) (hs : PlainIx b) : EM F (.Subscript a b pos) Γ (b2 pyIx ma mb) := by
  obtain ⟨ta, pa, ea⟩ := ha
  obtain ⟨tb, pb, eb⟩ := hb
  refine em_or (t := tOp (rIx F.G.K) ta tb) (u := tDGet ta tb) (fun X hX => by have h := pe_ix (pos := pos) ix_seq (pa X hX) (pb X hX) hs; rw [F.hK X hX] at h; exact h) (fun X hX => pe_dget (by have := F.hu X hX; omega) (pa X hX) (pb X hX) hs) ?_
  intro H0 σ S H Q hh p
  cases ma with
  | stk => exact False.elim p
  | exn e => exact .inl (ev2e ea hh p)
  | ok x =>
    cases x with
    | str z =>
      refine .inl (ev2x (R := fun x y H2 => rIx F.G.K x y H2 Q) ea eb hh p fun y vx vy S2 H2 g rx ry q => ?_)
      cases y with
      | int i =>
        obtain ⟨hl, q⟩ := Po.gate (m := (ofOpt (atI z.cps.toList i)).bind fun c => M.ok (D.str ⟨#[c]⟩)) q
        obtain ⟨c, hc, q⟩ := Po.opt q
        cases rx; cases ry
        exact .inr (.inr ⟨z, i, c, rfl, rfl, hl, hc, q.ok g.sub _ (.str _)⟩)
      | _ => exact False.elim q
    | lst xs =>
      refine .inl (ev2x (R := fun x y H2 => rIx F.G.K x y H2 Q) ea eb hh p fun y vx vy S2 H2 g rx ry q => ?_)
      cases y with
      | int i =>
        obtain ⟨c, hc, q⟩ := Po.opt0 (o := atI xs i) q
        cases rx with
        | lst h r =>
          cases ry
          obtain ⟨v, hv, rv⟩ := reps_at r hc
          exact .inl ⟨_, _, i, v, rfl, rfl, SqL.of (g.sub _ _ h), hv, q.ok g.sub _ rv⟩
      | _ => exact False.elim q
    | tup xs =>
      refine .inl (ev2x (R := fun x y H2 => rIx F.G.K x y H2 Q) ea eb hh p fun y vx vy S2 H2 g rx ry q => ?_)
      cases y with
      | int i =>
        obtain ⟨c, hc, q⟩ := Po.opt0 (o := atI xs i) q
        cases rx with
        | tup h r =>
          cases ry
          obtain ⟨v, hv, rv⟩ := reps_at r hc
          exact .inr (.inl ⟨_, _, i, v, rfl, rfl, SqT.of (g.sub _ _ h), hv, q.ok g.sub _ rv⟩)
      | _ => exact False.elim q
    | ktp xs =>
      refine .inl (ev2x (R := fun x y H2 => rIx F.G.K x y H2 Q) ea eb hh p fun y vx vy S2 H2 g rx ry q => ?_)
      cases y with
      | int i =>
        obtain ⟨c, hc, q⟩ := Po.opt0 (o := atI xs i) q
        cases rx with
        | kt hq r =>
          cases ry
          obtain ⟨v, hv, rv⟩ := reps_at (r.reps (S := S2)) hc
          exact .inr (.inl ⟨_, _, i, v, rfl, rfl, .inr hq, hv, q.ok g.sub _ rv⟩)
      | _ => exact False.elim q
    | dct kvs =>
      refine .inr (ev2x (R := fun x y H2 => ∃ a v, x = .ref a ∧ DGet H2 a y (some v) ∧ Q v H2) ea eb hh p fun y vx vy S2 H2 g rx ry q => ?_)
      cases y with
      | tup ks =>
        obtain ⟨k, hk, q⟩ := Po.opt (o := keysOf ks) q
        obtain ⟨d, hd, q⟩ := Po.opt0 (o := valD kvs k) q
        cases rx with
        | dct h n r =>
          cases ry with
          | tup h2 r2 =>
            obtain ⟨v, hv, rv⟩ := valD_find n r hd
            rw [reps_key r2 hk] at h2
            exact ⟨_, v, rfl, .inr ⟨_, k, _, ex_rd g.sub h, rfl, g.sub _ _ h2, hv.symm⟩, q.ok g.sub _ rv⟩
      | _ => exact False.elim q
    | dks kvs =>
      refine .inr (ev2x (R := fun x y H2 => ∃ a v, x = .ref a ∧ DGet H2 a y (some v) ∧ Q v H2) ea eb hh p fun y vx vy S2 H2 g rx ry q => ?_)
      cases y with
      | int i =>
        obtain ⟨d, hd, q⟩ := Po.opt0 (o := valD kvs (Sum.inl i)) q
        cases rx with
        | dks h n r =>
          cases ry
          obtain ⟨v, hv, rv⟩ := valD_find n r hd
          exact ⟨_, v, rfl, .inl ⟨_, Sum.inl i, ex_rd g.sub h, rfl, hv.symm⟩, q.ok g.sub _ rv⟩
      | str i =>
        obtain ⟨d, hd, q⟩ := Po.opt0 (o := valD kvs (Sum.inr i)) q
        cases rx with
        | dks h n r =>
          cases ry
          obtain ⟨v, hv, rv⟩ := valD_find n r hd
          exact ⟨_, v, rfl, .inl ⟨_, Sum.inr i, ex_rd g.sub h, rfl, hv.symm⟩, q.ok g.sub _ rv⟩
      | _ => exact False.elim q
    | _ =>
      refine .inl (ev2x (R := fun x y H2 => rIx F.G.K x y H2 Q) ea eb hh p fun y vx vy S2 H2 g rx ry q => ?_)
      cases y <;> exact False.elim q
def cutD (xs : List D) (lo hi : Option Int) : List D := (xs.drop (HT.sIx xs.length 0 lo)).take (HT.sIx xs.length xs.length hi - HT.sIx xs.length 0 lo)
theorem reps_cut {G : GG} {S : Hp} {vs : List V} {ds : List D} (r : Reps G S vs ds) (lo hi : Option Int) : Reps G S (cutV vs lo hi) (cutD ds lo hi) := by
  unfold cutV cutD
  rw [r.length]
  exact (r.drop _).take _
def pySl (d : D) (lo hi : Option Int) : M D := match d with
  | .str z => if z.length ≤ sizeLine then .ok (.str (cutS z lo hi)) else .stk
  | .lst xs => .ok (.lst (cutD xs lo hi))
  | .tup xs => if ¬ (HT.sIx xs.length 0 lo = 0 ∧ HT.sIx xs.length xs.length hi = xs.length) then .ok (.tup (cutD xs lo hi)) else .stk
  | _ => .stk
def EvO (F : Fm) (t : TO) (Γ : Gam) (m : M (Option Int)) : Prop := ∀ H0 σ S H Q, Holds F.G H0 σ S H Γ → Po F.G (WE F.W σ) S H (fun o _ H' => Q o H') m → t σ H Q
def OM (F : Fm) (e : Option Expr) (Γ : Gam) (m : M (Option Int)) : Prop := ∃ t, (∀ X, F.Xs X → PO X e t) ∧ EvO F t Γ m
def someI : D → M (Option Int)
  | .int i => .ok (some i)
  | _ => .stk
theorem om_none : OM F none Γ (.ok none) := ⟨_, fun X _ => po_none, fun H0 σ S H Q hh p => p.ok hh.ex⟩
theorem om_some (ha : EM F a Γ ma) : OM F (some a) Γ (b1 someI ma) := by
  obtain ⟨t, p, f⟩ := ha
  refine ⟨tPart t, fun X hX => po_some (p X hX), fun H0 σ S H Q hh po => ?_⟩
  refine f H0 σ S H _ hh (Po.bind po |>.imp fun d S1 H1 g k v r => ?_)
  cases r with
  | int i => exact ⟨i, rfl, Po.ok (a := some i) g.sub k⟩
  | _ => exact False.elim k
def slM (m : M D) (lo hi : M (Option Int)) : M D := m.bind fun d => lo.bind fun l => hi.bind fun h => pySl d l h
theorem em_slice {lo hi : Option Expr} {ml mh : M (Option Int)} {p2 : Pos} (ha : EM F a Γ ma) (hl : OM F lo Γ ml) (hh : OM F hi Γ mh) : EM F (.Subscript a (.Slice lo hi none p2) pos) Γ (slM ma ml mh) := by
  obtain ⟨ta, pa, ea⟩ := ha
  obtain ⟨tl, pl, el⟩ := hl
  obtain ⟨th, ph, eh⟩ := hh
  refine ⟨tSl (fun x l h H Q => rSlL F.G.K x l h H Q ∨ rSlS x l h H Q ∨ rSlT F.G.K x l h H Q) ta tl th, fun X hX => ?_, fun H0 σ S H Q hh p => ?_⟩
  · have h := pe_slice (p2 := p2) (pos := pos) (sl_list.or (sl_str.or sl_tup)) (pa X hX) (pl X hX) (ph X hX)
    rw [F.hK X hX] at h
    exact h
  · refine ea H0 σ S H _ hh (Po.bind p |>.imp fun d S1 H1 g1 q1 v r => ?_)
    refine el H0 σ S1 H1 _ (hh.grow g1) (Po.bind q1 |>.imp fun l S2 H2 g2 q2 => ?_)
    refine eh H0 σ S2 H2 _ (hh.grow (g1.trans g2)) (Po.bind q2 |>.imp fun h S3 H3 g3 q3 => ?_)
    have r := (r.mono g2.s).mono g3.s
    cases d with
    | str z =>
      obtain ⟨hl, q3⟩ := Po.gate (m := M.ok (D.str (cutS z l h))) q3
      cases r
      exact .inr (.inl ⟨z, rfl, hl, q3.ok g3.sub _ (.str _)⟩)
    | lst xs =>
      cases r with
      | lst h r => exact .inl ⟨_, _, rfl, SqL.of (g3.sub _ _ h), ev_newL (G := F.G) g3.sub (reps_cut r _ _) q3⟩
    | tup xs =>
      obtain ⟨hl, q3⟩ := Po.gate (m := M.ok (D.tup (cutD xs l h))) q3
      cases r with
      | tup h r => exact .inr (.inr ⟨_, _, rfl, SqT.of (g3.sub _ _ h), by rw [r.length]; exact hl, ev_newT (G := F.G) g3.sub (reps_cut r _ _) q3⟩)
    | _ => exact False.elim q3
def flatD : D → Bool
  | .non => true | .bl _ => true | .int _ => true | .str _ => true
  | _ => false
def eqF : D → D → Bool
  | .non, .non => true
  | .bl a, .bl b => a == b
  | .bl a, .int b => (if a then 1 else 0) == b
  | .int a, .bl b => a == (if b then 1 else 0)
  | .int a, .int b => a == b
  | .str a, .str b => a == b
  | _, _ => false
def inD (x : D) (xs : List D) : Bool := xs.any fun y => eqF y x
def memD (neg : Bool) (x y : D) : M D := match y with
  | .tup xs => if flatD x = true ∧ xs.all flatD = true then .ok (.bl (if neg then !inD x xs else inD x xs)) else .stk
  | .lst xs => if flatD x = true ∧ xs.all flatD = true then .ok (.bl (if neg then !inD x xs else inD x xs)) else .stk
  | _ => .stk
theorem rep_flat {G : GG} {S : Hp} {v : V} {d : D} (r : Rep G S v d) (h : flatD d = true) : flatV v = true := by
  cases r <;> first | rfl | exact absurd h Bool.false_ne_true
theorem rep_eqF {G : GG} {S : Hp} {v w : V} {d e : D} (r : Rep G S v d) (q : Rep G S w e) (h : flatD d = true) (k : flatD e = true) : eqV v w = eqF d e := by
  cases r <;> first
    | exact absurd h Bool.false_ne_true
    | (cases q <;> first | exact absurd k Bool.false_ne_true | rfl)
theorem reps_flat {G : GG} {S : Hp} : ∀ {vs : List V} {ds : List D}, Reps G S vs ds → ds.all flatD = true → vs.all flatV = true
  | _, _, .nil, _ => rfl
  | _, _, .cons r q, h => by
    rw [List.all_cons, Bool.and_eq_true] at h ⊢
    exact ⟨rep_flat r h.1, reps_flat q h.2⟩
theorem reps_in {G : GG} {S : Hp} {x : V} {d : D} (r : Rep G S x d) (h : flatD d = true) : ∀ {vs : List V} {ds : List D}, Reps G S vs ds → ds.all flatD = true → inV x vs = inD d ds
  | _, _, .nil, _ => rfl
  | _, _, .cons q qs, k => by
    rw [List.all_cons, Bool.and_eq_true] at k
    have ih := reps_in r h qs k.2
    unfold inV inD at ih ⊢
    rw [List.any_cons, List.any_cons, ih, rep_eqF q r k.1 h]
theorem rm_mem {neg : Bool} : RM F (rIn F.G.K neg) (memD neg) := by
  intro x y vx vy σ S H Q ex rx ry p
  cases y with
  | tup xs =>
    obtain ⟨hl, q⟩ := Po.gate (m := M.ok (D.bl (if neg then !inD x xs else inD x xs))) p
    cases ry with
    | tup h r => exact ⟨_, _, rfl, .inr (SqT.of (ex _ _ h)), rep_flat rx hl.1, reps_flat r hl.2, by rw [reps_in rx hl.1 r hl.2]; exact q.ok ex _ (.bl _)⟩
  | lst xs =>
    obtain ⟨hl, q⟩ := Po.gate (m := M.ok (D.bl (if neg then !inD x xs else inD x xs))) p
    cases ry with
    | lst h r => exact ⟨_, _, rfl, .inl (SqL.of (ex _ _ h)), rep_flat rx hl.1, reps_flat r hl.2, by rw [reps_in rx hl.1 r hl.2]; exact q.ok ex _ (.bl _)⟩
  | _ => exact False.elim p
def isNon : D → Bool
  | .non => true
  | _ => false
def pyIs (x y : D) : M D := match y with
  | .non => .ok (.bl (isNon x))
  | _ => .stk
def pyIsNot (x y : D) : M D := match y with
  | .non => .ok (.bl (!isNon x))
  | _ => .stk
theorem rep_non {G : GG} {S : Hp} {v : V} {d : D} (r : Rep G S v d) : decide (v = .non) = isNon d := by
  cases r <;> first | rfl | exact decide_eq_false (fun z => by cases z)
theorem rm_is : RM F (fun x y H Q => y = .non ∧ Q (.bl (decide (x = .non))) H) pyIs := by
  intro x y vx vy σ S H Q ex rx ry p
  cases y with
  | non => cases ry; exact ⟨rfl, by rw [rep_non rx]; exact Po.ok (a := D.bl (isNon x)) ex p _ (.bl _)⟩
  | _ => exact False.elim p
theorem rm_isnot : RM F (fun x y H Q => y = .non ∧ Q (.bl (!decide (x = .non))) H) pyIsNot := by
  intro x y vx vy σ S H Q ex rx ry p
  cases y with
  | non => cases ry; exact ⟨rfl, by rw [rep_non rx]; exact Po.ok (a := D.bl (!isNon x)) ex p _ (.bl _)⟩
  | _ => exact False.elim p
structure Fld (G : GG) (c : Nat) (f : Str) : Prop where
  cl : Cls G.K (G.ca c)
  no : NoAttr G.K (G.ca c) f
def pyFld (c : Nat) (f : Str) : D → M D
  | .obj c' fs => if c' = c then ofOpt (fs.lookup f) else .stk
  | _ => .stk
theorem lookup_rep {G : GG} {S : Hp} {f : Str} : ∀ {vs : List (Str × V)} {fs : List (Str × D)} {d : D}, vs.map (·.1) = fs.map (·.1) → Reps G S (vs.map (·.2)) (fs.map (·.2)) → fs.lookup f = some d → ∃ v, vs.lookup f = some v ∧ Rep G S v d
  | [], [], _, _, _, e => by cases e
  | (a, v) :: vs, (b, x) :: fs, d, n, .cons h r, e => by
    obtain ⟨n1, n2⟩ := List.cons.inj n
    have n1 : a = b := n1
    subst n1
    rw [List.lookup_cons] at e ⊢
    cases q : f == a with
    | true => simp only [q] at e ⊢; cases e; exact ⟨v, rfl, h⟩
    | false => simp only [q] at e ⊢; exact lookup_rep n2 r e
theorem em_fld {c : Nat} {f : Str} (K : Fld F.G c f) (ha : EM F a Γ ma) (hb : ∀ X, F.Xs X → attributeBase a f X.env (eval a X.env) = eval a X.env := by intros; rfl) : EM F (.Attribute a f pos) Γ (b1 (pyFld c f) ma) := by
  obtain ⟨t, p, g⟩ := ha
  refine ⟨tFld F.G.K t f, fun X hX => by have h := pe_fld (pos := pos) (p X hX) (hb X hX); rw [F.hK X hX] at h; exact h, fun H0 σ S H Q hh po => ?_⟩
  refine g H0 σ S H _ hh (Po.bind po |>.imp fun d S1 H1 g1 k v r => ?_)
  cases r with
  | @obj ad dx c' vs fs h1 h2 n r =>
    obtain ⟨hc, k2⟩ := Po.gate (m := ofOpt (fs.lookup f)) k
    obtain ⟨x, hx, k3⟩ := Po.opt0 k2
    obtain ⟨v, hv, rv⟩ := lookup_rep n r hx
    rw [hc] at h1
    exact ⟨_, _, dx, vs, v, rfl, g1.sub _ _ h1, K.cl, K.no, hv, k3.ok g1.sub _ rv⟩
  | _ => exact False.elim k
end
end Mir
namespace Mir
open PySem PySem.Spec L2
inductive Out where
  | stk | exn (e : Exc) (Γ : Gam) | ret (d : D) | nx (Γ : Gam)
def Ctl.out {X S : Type} (fx : X → Gam) (fs : S → Gam) : Ctl X S → Out
  | .stk => .stk
  | .exn e x => .exn e (fx x)
  | .ret d => .ret d
  | .nx s => .nx (fs s)
def Ctl.noNx {X S : Type} (c : Ctl X S) : Prop := ∀ s, c ≠ .nx s
def NewV (H : Hp) (v : V) : Prop := ∃ p, v = .ref p ∧ H p = none
def RetW (F : Fm) (H0 S H : Hp) (v : V) (d : D) : Prop := match F.ow with
  | none => Rep F.G S v d
  | some p => ∃ a b, d = .tup [a, b] ∧ Rep F.G S v a ∧ S p = none ∧ OwnAt F.G H0 S H p b
theorem RetW.of {F : Fm} {H0 S H : Hp} {v : V} {d : D} (h : F.ow = none) (r : Rep F.G S v d) : RetW F H0 S H v d := by
  unfold RetW
  rw [h]
  exact r
def OPo (F : Fm) (S0 H0 : Hp) (Dn : Ends) : Out → Prop
  | .stk => False
  | .exn e Γ => ∀ cls dd σ S H, Grow S0 H0 S H → (∃ Δ, Holds F.G H0 σ S H Δ ∧ Weak Δ Γ) → RepX F.G S cls dd e → F.W cls dd σ H
  | .ret d => ∀ v S H, Grow S0 H0 S H → RetW F H0 S H v d → (F.fr = true → NewV H0 v) → Dn.rt v H
  | .nx Γ => ∀ σ S H, Grow S0 H0 S H → Holds F.G H0 σ S H Γ → Dn.nx σ H
def DoesM (F : Fm) (t : TS) (Γ : Gam) (o : Out) : Prop := ∀ S0 H0 Dn σ S H, Grow S0 H0 S H → Holds F.G H0 σ S H Γ → OPo F S0 H0 Dn o → t Dn σ H
def BM (F : Fm) (sts : List Stmt) (Γ : Gam) (o : Out) : Prop := ∃ t, (∀ X, F.Xs X → PSs X sts t) ∧ DoesM F t Γ o
def cE (F : Fm) (e : Expr) : TE := fun σ H Q => ∃ t, (∀ X, F.Xs X → PE X e t) ∧ t σ H Q
def cT (F : Fm) (e : Expr) : TT := fun σ H Q => ∃ t, (∀ X, F.Xs X → PT X e t) ∧ t σ H Q
def cB (F : Fm) (sts : List Stmt) : TS := fun D σ H => ∃ t, (∀ X, F.Xs X → PSs X sts t) ∧ t D σ H
section
variable {F : Fm} {Γ : Gam} {e : Expr} {sts : List Stmt} {m : M D} {mt : M Bool} {o : Out}
theorem cE_ok (X : Cx) (hX : F.Xs X) : PE X e (cE F e) := ⟨fun pins s σ H Q I ⟨_, ht, h⟩ => (ht X hX).run pins s σ H Q I h⟩
theorem cT_ok (X : Cx) (hX : F.Xs X) : PT X e (cT F e) := ⟨fun pins s σ H Q I ⟨_, ht, h⟩ => (ht X hX).run pins s σ H Q I h⟩
theorem cB_ok (X : Cx) (hX : F.Xs X) : PSs X sts (cB F sts) := ⟨fun pins s σ H D I ⟨_, ht, h⟩ => (ht X hX).run pins s σ H D I h⟩
theorem EM.c (h : EM F e Γ m) : EvM F (cE F e) Γ m := let ⟨t, p, q⟩ := h; fun H0 σ S H Q hh po => ⟨t, p, q H0 σ S H Q hh po⟩
theorem TM.c (h : TM F e Γ mt) : EvT F (cT F e) Γ mt := let ⟨t, p, q⟩ := h; fun H0 σ S H Q hh po => ⟨t, p, q H0 σ S H Q hh po⟩
theorem BM.c (h : BM F sts Γ o) : DoesM F (cB F sts) Γ o := let ⟨t, p, q⟩ := h; fun S0 H0 Dn σ S H g hh po => ⟨t, p, q S0 H0 Dn σ S H g hh po⟩
end
theorem Grow.base {S0 H0 S H : Hp} (a : Grow S0 H0 S H) : Grow S H0 S H := ⟨Same.refl _, a.h, a.sub, fun _ _ h => h⟩
theorem Grow.rebase {S0 H0 S H S' H' : Hp} (a : Grow S0 H0 S H) (b : Grow S H0 S' H') : Grow S0 H0 S' H' :=
  ⟨a.s.trans b.s, b.h, b.sub, fun p h1 h2 => b.sep p h1 (a.sep p h1 h2)⟩
theorem OPo.rebase {F : Fm} {S0 H0 S H : Hp} {Dn : Ends} {o : Out} (a : Grow S0 H0 S H) (p : OPo F S0 H0 Dn o) : OPo F S H0 Dn o := by
  cases o with
  | stk => exact p
  | exn e Γ => exact fun cls dd σ S' H' g => p cls dd σ S' H' (a.rebase g)
  | ret d => exact fun v S' H' g => p v S' H' (a.rebase g)
  | nx Γ => exact fun σ S' H' g => p σ S' H' (a.rebase g)
section
variable {F : Fm} {Γ : Gam} {S0 H0 : Hp} {Dn : Ends} {X S : Type} {fx : X → Gam} {fs : S → Gam} {x0 : X} {σ : L2.St} {α : Type}
theorem opo_bind {m : M α} {k : α → Ctl X S} {Si Hi : Hp} (g : Grow S0 H0 Si Hi) (hh : Holds F.G H0 σ Si Hi Γ) (w : Weak Γ (fx x0)) (p : OPo F S0 H0 Dn ((m.bindC x0 k).out fx fs)) :
    Po F.G (WE F.W σ) Si Hi (fun a S1 H1 => Grow S0 H0 S1 H1 ∧ Holds F.G H0 σ S1 H1 Γ ∧ OPo F S0 H0 Dn ((k a).out fx fs)) m := by
  cases m with
  | stk => exact p
  | exn e => exact fun cls dd S' H' g' r => p cls dd σ S' H' (g.trans g') ⟨Γ, hh.grow g', w⟩ r
  | ok a => exact fun S' H' g' => ⟨g.trans g', hh.grow g', p⟩
end
section
variable {F : Fm} {Γ : Gam} {X S J : Type} {fx : X → Gam} {fs : S → Gam} {x0 : X} {a b c e : Expr} {es : List Expr} {ma mb mc m : M D} {mt : M Bool} {pos : Pos} {st : Stmt} {rest body : List Stmt}
theorem bm_cons {t : TS} {o : Out} (h : ∀ X, F.Xs X → PS X st t) (d : DoesM F (tSeq t (cB F rest)) Γ o) : BM F (st :: rest) Γ o := ⟨_, fun X hX => pss_cons (h X hX) (cB_ok X hX), d⟩
theorem bm_nil {s : S} (w : Weak Γ (fs s)) (l : (fs s).length = Γ.length := by rfl) : BM F [] Γ ((Ctl.nx s : Ctl X S).out fx fs) :=
  ⟨_, fun X _ => pss_nil, fun S0 H0 Dn σ S H g hh p => p σ S H g (hh.weak w)⟩
def GM (F : Fm) (st : Stmt) (i : Nat) (Γ : Gam) (m : M D) : Prop := ∃ te, (∀ X, F.Xs X → PS X st (tAsg te (gName i))) ∧ EvM F te Γ m
theorem gm_set (i : Nat) {x : Str} {pos' : Pos} (hi : F.N[i]? = some x) (hl : F.L[i]? = some true) (he : EM F e Γ m) (hs : ∀ X, F.Xs X → swapsWith e (some (.Name x pos')) pos.line X.env = pure false := by intros; rfl) : GM F (.Assign [.Name x pos'] e pos) i Γ m := by
  obtain ⟨t, p, q⟩ := he
  refine ⟨t, fun X hX => ?_, q⟩
  have h := F.loc X hX i x hl hi
  have hn := F.hN X hX
  exact ps_set (by rw [hn]; exact F.nd) (by rw [hn]; exact hi) h.1 (p X hX) (hs X hX) h.2
theorem bm_asg (i : Nat) {k : D → Ctl X S} (h : GM F st i Γ m) (w : Weak Γ (fx x0)) (hr : ∀ d, BM F rest (Γ.set i (Sl.val d)) ((k d).out fx fs)) : BM F (st :: rest) Γ ((m.bindC x0 k).out fx fs) := by
  obtain ⟨t, p, q⟩ := h
  refine bm_cons p fun S0 H0 Dn σ S H g hh po => ?_
  refine q H0 σ S H _ hh ((opo_bind g hh w po).imp fun d S1 H1 _ ⟨g1, h1, p1⟩ v r => ?_)
  exact (hr d).c S0 H0 Dn _ S1 H1 g1 (h1.set r) p1
theorem bm_ret {he : EM F e Γ m} (w : Weak Γ (fx x0)) (hfr : F.fr = false := by rfl) (how : F.ow = none := by rfl) : BM F [.Return (some e) pos] Γ ((m.bindC x0 Ctl.ret : Ctl X S).out fx fs) := by
  obtain ⟨t, p, q⟩ := he
  refine ⟨tRet t, fun X hX => pss_one (ps_ret (p X hX)), fun S0 H0 Dn σ S H g hh po => ?_⟩
  exact q H0 σ S H _ hh ((opo_bind g hh w po).imp fun d S1 H1 _ ⟨g1, h1, p1⟩ v r => p1 v S1 H1 g1 (.of how r) fun z => by rw [hfr] at z; cases z)
theorem bm_expr {k : Ctl X S} (he : EM F e Γ m) (w : Weak Γ (fx x0)) (hr : BM F rest Γ (k.out fx fs)) (hs : ∀ X, F.Xs X → swapsWith e none pos.line X.env = pure false := by intros; rfl) : BM F (.Expr e pos :: rest) Γ ((m.bindC x0 fun _ => k).out fx fs) := by
  obtain ⟨t, p, q⟩ := he
  refine bm_cons (fun X hX => ps_expr (p X hX) (hs X hX)) fun S0 H0 Dn σ S H g hh po => ?_
  exact q H0 σ S H _ hh ((opo_bind g hh w po).imp fun d S1 H1 _ ⟨g1, h1, p1⟩ v r => hr.c S0 H0 Dn σ S1 H1 g1 h1 p1)
theorem OPo.seq {Dn : Ends} {S0 H0 : Hp} {fj : J → Gam} {c : Ctl X J} {k : J → Ctl X S} {nx : L2.St → Hp → Prop} (p : OPo F S0 H0 Dn ((c.bind k).out fx fs)) (h : ∀ j, OPo F S0 H0 Dn ((k j).out fx fs) → ∀ σ S H, Grow S0 H0 S H → Holds F.G H0 σ S H (fj j) → nx σ H) :
    OPo F S0 H0 { Dn with nx := nx } (c.out fx fj) := by
  cases c with
  | stk => exact p
  | exn e x => exact p
  | ret d => exact p
  | nx j => exact fun σ S H g hh => h j p σ S H g hh
theorem bm_if {fj : J → Gam} {ca cb : Ctl X J} {k : J → Ctl X S} {A B : List Stmt} (hc : TM F c Γ mt) (w : Weak Γ (fx x0)) (ha : BM F A Γ (ca.out fx fj)) (hb : BM F B Γ (cb.out fx fj)) (hr : ∀ j, BM F rest (fj j) ((k j).out fx fs)) :
    BM F (.If c A B pos :: rest) Γ (((mt.bindC x0 fun c => if c = true then ca else cb).bind k).out fx fs) := by
  refine bm_cons (t := tIfS (cT F c) (cB F A) (cB F B)) (fun X hX => ps_if (cT_ok X hX) (cB_ok X hX) (cB_ok X hX)) fun S0 H0 Dn σ S H g hh po => ?_
  have po := OPo.seq (nx := cB F rest Dn) (fj := fj) po fun j q σ S H g hh => (hr j).c S0 H0 Dn σ S H g hh q
  refine hc.c H0 σ S H _ hh ((opo_bind g hh w po).imp fun b S1 H1 _ ⟨g1, h1, p1⟩ => ?_)
  cases b with
  | true => exact iteT (ha.c S0 H0 _ σ S1 H1 g1 h1 p1)
  | false => exact iteF (hb.c S0 H0 _ σ S1 H1 g1 h1 p1)
theorem OPo.leave {Dn : Ends} {S0 H0 : Hp} {c : Ctl X S} {nx : L2.St → Hp → Prop} (n : c.noNx) (p : OPo F S0 H0 Dn (c.out fx fs)) : OPo F S0 H0 { Dn with nx := nx } (c.out fx fs) := by
  cases c with
  | stk => exact p
  | exn e x => exact p
  | ret d => exact p
  | nx s => exact absurd rfl (n s)
theorem bm_ifl {ca k : Ctl X S} {A : List Stmt} (hc : TM F c Γ mt) (w : Weak Γ (fx x0)) (ha : BM F A Γ (ca.out fx fs)) (n : ca.noNx) (hr : BM F rest Γ (k.out fx fs)) :
    BM F (.If c A [] pos :: rest) Γ ((mt.bindC x0 fun c => if c = true then ca else k).out fx fs) := by
  refine bm_cons (t := tIfS (cT F c) (cB F A) tNext) (fun X hX => ps_if (cT_ok X hX) (cB_ok X hX) pss_nil) fun S0 H0 Dn σ S H g hh po => ?_
  refine hc.c H0 σ S H _ hh ((opo_bind g hh w po).imp fun b S1 H1 _ ⟨g1, h1, p1⟩ => ?_)
  cases b with
  | true => exact iteT (ha.c S0 H0 _ σ S1 H1 g1 h1 (OPo.leave n p1))
  | false => exact iteF (hr.c S0 H0 Dn σ S1 H1 g1 h1 p1)
theorem noNx_bindC {α : Type} {m : M α} {k : α → Ctl X S} (h : ∀ a, (k a).noNx) : (m.bindC x0 k).noNx := fun s => by
  cases m with
  | stk => exact fun z => by cases z
  | exn e => exact fun z => by cases z
  | ok a => exact h a s
theorem noNx_ret {d : D} : (Ctl.ret d : Ctl X S).noNx := fun s z => by cases z
theorem noNx_stk : (Ctl.stk : Ctl X S).noNx := fun s z => by cases z
theorem noNx_exn {e : Exc} : (Ctl.exn e x0 : Ctl X S).noNx := fun s z => by cases z
theorem noNx_ite {p : Prop} [Decidable p] {a b : Ctl X S} (h : a.noNx) (k : b.noNx) : (if p then a else b).noNx := by split <;> assumption
theorem noNx_bind {c : Ctl X J} {k : J → Ctl X S} (h : ∀ a, (k a).noNx) : (c.bind k).noNx := fun s => by
  cases c with
  | stk => exact fun z => by cases z
  | exn e => exact fun z => by cases z
  | ret d => exact fun z => by cases z
  | nx a => exact h a s
def ItSem (G : GG) (J : It) (S : Hp) (ds : List D) : Prop := ∀ S' H', Ex S S' → Ex S' H' → J.stop ds.length H' ∧ ∀ i d, ds[i]? = some d → J.go i H' ∧ ∀ x H'', J.yld i H' x H'' → ∃ S'', Grow S' H' S'' H'' ∧ Rep G S'' x d
def IvM (F : Fm) (wi : TI) (Γ : Gam) (m : M (List D)) : Prop := ∀ H0 σ S H R, Holds F.G H0 σ S H Γ → Po F.G (WE F.W σ) S H (fun ds S' H' => ∀ J, ItSem F.G J S' ds → R J H') m → wi σ H R
def IM (F : Fm) (tg iter : Expr) (Γ : Gam) (m : M (List D)) : Prop := ∃ wi, (∀ X, F.Xs X → PI X tg iter wi) ∧ IvM F wi Γ m
def TgM (F : Fm) (tg : Expr) (f : D → Gam → Option Gam) : Prop := ∃ g, (∀ X, F.Xs X → PG X tg g) ∧ ∀ H0 σ S H v d Γ Γ' (Q : L2.St → Hp → Prop), Holds F.G H0 σ S H Γ → Rep F.G S v d → f d Γ = some Γ' → (∀ σ', Holds F.G H0 σ' S H Γ' → σ'.length = σ.length → (∀ i : Nat, F.L[i]? ≠ some true → σ'[i]? = σ[i]?) → Q σ' H) → g v σ H Q
theorem tg_name (i : Nat) {x : Str} (hi : F.N[i]? = some x) (hl : F.L[i]? = some true) : TgM F (.Name x pos) (fun d Γ => some (Γ.set i (Sl.val d))) := by
  refine ⟨gName i, fun X hX => ?_, fun H0 σ S H v d Γ Γ' Q hh r e q => ?_⟩
  · have h := F.loc X hX i x hl hi
    have hn := F.hN X hX
    exact pg_name (by rw [hn]; exact F.nd) (by rw [hn]; exact hi) h.1 h.2
  · cases e
    exact q _ (hh.set r) (by simp) fun j hj => List.getElem?_set_ne (fun (z : i = j) => hj (by rw [← z]; exact hl))
def forC (f : D → S → Ctl X S) : List D → S → Ctl X S
  | [], s => .nx s
  | d :: ds, s => (f d s).bind (forC f ds)
theorem bm_for {T : Type} {fj : J → Gam} {j0 : J} {mi : M (List D)} {f : D → J → Ctl X J} {tf : D → Gam → Option Gam} {tg iter : Expr} {k : J → Ctl X S} (hi : IM F tg iter Γ mi) (w : Weak Γ (fx x0)) (wj : Weak Γ (fj j0)) (lj : (fj j0).length = Γ.length) (ht : TgM F tg tf)
    (hb : ∀ d j, (∃ Γ', tf d (fj j) = some Γ' ∧ BM F body Γ' ((f d j).out fx fj)) ∨ f d j = .stk) (hr : ∀ j, BM F rest (fj j) ((k j).out fx fs)) (hcm : F.cm = true)
    (hs : ∀ X, F.Xs X → ∀ x, foldedSetIterable iter X.env x = pure x := by intros; rfl) :
    BM F (.For tg iter body [] pos :: rest) Γ ((mi.bindC x0 fun ds => (forC f ds j0).bind k).out fx fs) := by
  obtain ⟨wi, pi, ei⟩ := hi
  obtain ⟨g, pg, eg⟩ := ht
  refine bm_cons (t := tFor wi g (cB F body)) (fun X hX => ps_for (F.po X hX) (F.hc hcm X hX) (pi X hX) (pg X hX) (cB_ok X hX) (hs X hX)) fun S0 H0 Dn σ S H gr hh po => ?_
  refine ei H0 σ S H _ hh ((opo_bind gr hh w po).imp fun ds S1 H1 _ ⟨g1, h1, p1⟩ J hJ => ?_)
  refine ⟨fun i m σ2 H2 => m = ds.length - i ∧ i ≤ ds.length ∧ ∃ S2 j, Grow S0 H0 S2 H2 ∧ Ex S1 S2 ∧ Holds F.G H0 σ2 S2 H2 (fj j) ∧ OPo F S0 H0 Dn (((forC f (ds.drop i) j).bind k).out fx fs), ⟨ds.length, by simp, Nat.zero_le _, S1, j0, g1, Same.refl _, h1.weak wj, p1⟩, ?_⟩
  rintro i m σ2 H2 ⟨rfl, hi, S2, j, g2, e12, hh2, p2⟩
  obtain ⟨stop, go⟩ := hJ S2 H2 e12 g2.sub
  by_cases hlt : i < ds.length
  · obtain ⟨hgo, hy⟩ := go i ds[i] (List.getElem?_eq_getElem hlt)
    refine .inr ⟨hgo, fun σ3 H3 => ∃ S3 j, Grow S0 H0 S3 H3 ∧ Ex S1 S3 ∧ Holds F.G H0 σ3 S3 H3 (fj j) ∧ OPo F S0 H0 Dn (((forC f (ds.drop (i + 1)) j).bind k).out fx fs), fun σ' H' q => ⟨ds.length - (i + 1), by omega, rfl, hlt, q⟩, fun x H3 y => ?_⟩
    obtain ⟨S3, g3, r3⟩ := hy x H3 y
    rw [List.drop_eq_getElem_cons hlt] at p2
    have p2 : OPo F S0 H0 Dn ((((f ds[i] j).bind (forC f (ds.drop (i + 1)))).bind k).out fx fs) := p2
    rcases hb ds[i] j with ⟨Γ', e', hbm⟩ | hstk
    · refine eg H0 σ2 S3 H3 x ds[i] (fj j) Γ' _ (hh2.grow g3) r3 e' fun σ3 hh3 _ _ => ?_
      have gg : Grow S0 H0 S3 H3 := g2.trans g3
      refine hbm.c S3 H0 _ σ3 S3 H3 gg.base hh3 ?_
      revert p2
      cases f ds[i] j with
      | stk => exact fun p2 => p2
      | exn e x => exact fun p2 => OPo.rebase (o := Out.exn e (fx x)) gg p2
      | ret d => exact fun p2 => OPo.rebase (o := Out.ret d) gg p2
      | nx s => exact fun p2 σ4 S4 H4 g4 hh4 => ⟨S4, s, gg.rebase g4, (e12.trans g3.s).trans g4.s, hh4, p2⟩
    · rw [hstk] at p2
      exact False.elim p2
  · have e : i = ds.length := by omega
    subst e
    refine .inl ⟨stop, ?_⟩
    rw [List.drop_length] at p2
    exact (hr j).c S0 H0 Dn σ2 S2 H2 g2 hh2 p2
end
end Mir
namespace Mir
open PySem PySem.Spec L2
theorem PI_or {X : Cx} {tg e : Expr} {t u : TI} (h : PI X tg e t) (k : PI X tg e u) : PI X tg e (fun σ H R => t σ H R ∨ u σ H R) :=
  ⟨fun pins s σ H R I q => q.elim (h.run pins s σ H R I) (k.run pins s σ H R I)⟩
def signsD (x : Str) : List D := x.cps.toList.map fun c => .str ⟨#[c]⟩
def pyItems : D → M (List D)
  | .lst xs => .ok xs
  | .tup xs => .ok xs
  | .ktp xs => .ok xs
  | .scr ns => .ok (ns.map .int)
  | .str x => .ok (signsD x)
  | _ => .stk
section
variable {F : Fm} {Γ : Gam} {a b c e : Expr} {es : List Expr} {ma mb mc m : M D} {mt : M Bool} {pos : Pos} {tg iter : Expr} {G : GG} {S : Hp}
theorem it_list {p : Addr} {vs : List V} {ds : List D} (h : SqL G.K S p vs) (r : Reps G S vs ds) : ItSem G (Itl G.K p) S ds := fun S' H' e1 e2 => by
  have h' := ex_l e2 (ex_l e1 h)
  refine ⟨⟨vs, h', by rw [r.length]; exact Nat.le_refl _⟩, fun i d hd => ?_⟩
  obtain ⟨v, hv, rv⟩ := r.get hd
  refine ⟨⟨vs, v, h', hv⟩, fun x H'' y => ?_⟩
  obtain ⟨rfl, y⟩ := y
  have : v = x := Option.some.inj (hv.symm.trans (y vs h'))
  subst this
  exact ⟨S', Grow.refl e2, rv.mono e1⟩
theorem it_tup {p : Addr} {vs : List V} {ds : List D} (h : SqT G.K S p vs) (r : Reps G S vs ds) : ItSem G (Itt G.K p) S ds := fun S' H' e1 e2 => by
  have h' := ex_t e2 (ex_t e1 h)
  refine ⟨⟨vs, h', by rw [r.length]; exact Nat.le_refl _⟩, fun i d hd => ?_⟩
  obtain ⟨v, hv, rv⟩ := r.get hd
  refine ⟨⟨vs, v, h', hv⟩, fun x H'' y => ?_⟩
  obtain ⟨rfl, y⟩ := y
  have : v = x := Option.some.inj (hv.symm.trans (y vs h'))
  subst this
  exact ⟨S', Grow.refl e2, rv.mono e1⟩
theorem it_str {x : Str} : ItSem G (Its x) S (signsD x) := fun S' H' e1 e2 => by
  refine ⟨by show x.cps.size ≤ (signsD x).length; unfold signsD; rw [List.length_map, Array.length_toList]; exact Nat.le_refl _, fun i d hd => ?_⟩
  unfold signsD at hd
  rw [List.getElem?_map, Array.getElem?_toList] at hd
  cases q : x.cps[i]? with
  | none => rw [q] at hd; cases hd
  | some c =>
    rw [q] at hd
    cases hd
    refine ⟨(Array.getElem?_eq_some_iff.mp q).1, fun v H'' y => ?_⟩
    obtain ⟨rfl, c', hc, rfl⟩ := y
    rw [q] at hc
    cases hc
    exact ⟨S', Grow.refl e2, .str _⟩
theorem reps_ints {ns : List Int} : Reps G S (ns.map V.int) (ns.map D.int) := by
  induction ns with
  | nil => exact .nil
  | cons n ns ih => exact .cons (.int n) ih
theorem im_seq (he : EM F e Γ m) : IM F tg e Γ (b1 pyItems m) := by
  obtain ⟨t, p, f⟩ := he
  refine ⟨fun σ H R => (iList F.G.K t σ H R ∨ iTup F.G.K t σ H R) ∨ iStr t σ H R, fun X hX => ?_, fun H0 σ S H R hh po => ?_⟩
  · have h := PI_or (PI_or (pi_list (tg := tg) (p X hX)) (pi_tup (p X hX))) (pi_str (p X hX))
    rw [F.hK X hX] at h
    exact h
  · cases m with
    | stk => exact False.elim po
    | exn e => exact .inl (.inl (f H0 σ S H _ hh po))
    | ok d =>
      cases d with
      | lst xs =>
        refine .inl (.inl (f H0 σ S H _ hh fun S1 H1 g v r => ?_))
        cases r with
        | lst h r => exact ⟨_, rfl, ⟨_, SqL.of (g.sub _ _ h)⟩, po S1 H1 g _ (it_list (SqL.of h) r)⟩
      | scr xs =>
        refine .inl (.inl (f H0 σ S H _ hh fun S1 H1 g v r => ?_))
        cases r with
        | scr h => exact ⟨_, rfl, ⟨_, ex_l g.sub h⟩, po S1 H1 g _ (it_list h reps_ints)⟩
      | tup xs =>
        refine .inl (.inr (f H0 σ S H _ hh fun S1 H1 g v r => ?_))
        cases r with
        | tup h r => exact ⟨_, rfl, ⟨_, SqT.of (g.sub _ _ h)⟩, po S1 H1 g _ (it_tup (SqT.of h) r)⟩
      | ktp xs =>
        refine .inl (.inr (f H0 σ S H _ hh fun S1 H1 g v r => ?_))
        cases r with
        | kt kt rr => exact ⟨_, rfl, ⟨_, .inr kt⟩, po S1 H1 g _ (it_tup (.inr kt) rr.reps)⟩
      | str x =>
        refine .inr (f H0 σ S H _ hh fun S1 H1 g v r => ?_)
        cases r
        exact ⟨x, rfl, po S1 H1 g _ it_str⟩
      | _ => exact False.elim po
def rangeD (lo : Int) (n : Nat) : List D := (List.range n).map fun (i : Nat) => D.int (lo + (i : Int))
theorem it_range {lo : Int} {n : Nat} : ItSem G (Itr lo n) S (rangeD lo n) := fun S' H' e1 e2 => by
  refine ⟨by show n ≤ (rangeD lo n).length; unfold rangeD; rw [List.length_map, List.length_range]; exact Nat.le_refl _, fun i d hd => ?_⟩
  unfold rangeD at hd
  rw [List.getElem?_map] at hd
  by_cases hi : i < n
  · rw [List.getElem?_range hi] at hd
    cases hd
    refine ⟨hi, fun x H'' y => ?_⟩
    obtain ⟨rfl, rfl⟩ := y
    exact ⟨S', Grow.refl e2, .int _⟩
  · rw [List.getElem?_eq_none (by rw [List.length_range]; omega)] at hd
    cases hd
def pyRange1 : List D → M (List D)
  | [.int j] => if -(2 ^ 62) ≤ j ∧ j < 2 ^ 62 then .ok (rangeD 0 j.toNat) else .stk
  | _ => .stk
def pyRange2 : List D → M (List D)
  | [.int i, .int j] => if -(2 ^ 62) ≤ i ∧ i < 2 ^ 62 ∧ -(2 ^ 62) ≤ j ∧ j < 2 ^ 62 then .ok (rangeD i (j - i).toNat) else .stk
  | _ => .stk
theorem im_range1 {p : Pos} {ml : M (List D)} (hg : F.kd.lookup ("range" : Str) = some NameKind.globalImplicit) (hm : F.G.mg "range" = none) (ha : AM F [a] Γ ml) (hs : ∀ X, F.Xs X → starEach [a] X.env = [(false, eval a X.env)] := by intros; rfl) :
    IM F tg (.Call (.Name "range" p) [a] [] pos) Γ (b1 pyRange1 ml) := by
  obtain ⟨t, q, f⟩ := ha
  refine ⟨iRng1 t, fun X hX => pi_range1 (F.gl X hX hg) (by rw [(F.hX X hX).2.2.2.1]; exact hm) (q X hX) (hs X hX), fun H0 σ S H R hh po => ?_⟩
  refine f H0 σ S H _ hh ((Po.bind po).imp fun ds S1 H1 g k vs r => ?_)
  match ds, r, k with
  | [.int j], r, k =>
    obtain ⟨v, e, h⟩ := reps1 r
    subst e
    cases h
    obtain ⟨hj, k⟩ := Po.gate (m := M.ok (rangeD 0 j.toNat)) k
    exact ⟨j, rfl, hj.1, hj.2, k.ok g.sub _ it_range⟩
theorem im_range2 {p : Pos} {ml : M (List D)} (hg : F.kd.lookup ("range" : Str) = some NameKind.globalImplicit) (hm : F.G.mg "range" = none) (ha : AM F [a, b] Γ ml) (hs : ∀ X, F.Xs X → starEach [a, b] X.env = [(false, eval a X.env), (false, eval b X.env)] := by intros; rfl) (hs2 : ∀ X, F.Xs X → starEach [b] X.env = [(false, eval b X.env)] := by intros; rfl) :
    IM F tg (.Call (.Name "range" p) [a, b] [] pos) Γ (b1 pyRange2 ml) := by
  obtain ⟨t, q, f⟩ := ha
  refine ⟨iRng2 t, fun X hX => pi_range2 (F.gl X hX hg) (by rw [(F.hX X hX).2.2.2.1]; exact hm) (q X hX) (hs X hX) (hs2 X hX), fun H0 σ S H R hh po => ?_⟩
  refine f H0 σ S H _ hh ((Po.bind po).imp fun ds S1 H1 g k vs r => ?_)
  match ds, r, k with
  | [.int i, .int j], r, k =>
    obtain ⟨v, w, e, h, h2⟩ := reps2 r
    subst e
    cases h; cases h2
    obtain ⟨hj, k⟩ := Po.gate (m := M.ok (rangeD i (j - i).toNat)) k
    exact ⟨i, j, rfl, hj, k.ok g.sub _ it_range⟩
def TgsM (F : Fm) (tgs : List Expr) (f : List D → Gam → Option Gam) : Prop := ∃ g, (∀ X, F.Xs X → PGs X tgs g) ∧ ∀ H0 σ S H vs ds Γ Γ' (Q : L2.St → Hp → Prop), Holds F.G H0 σ S H Γ → Reps F.G S vs ds → f ds Γ = some Γ' → (∀ σ', Holds F.G H0 σ' S H Γ' → σ'.length = σ.length → (∀ i : Nat, F.L[i]? ≠ some true → σ'[i]? = σ[i]?) → Q σ' H) → g vs σ H Q
def tgNil (ds : List D) (Γ : Gam) : Option Gam := match ds with
  | [] => some Γ
  | _ => none
def tgCons (f : D → Gam → Option Gam) (g : List D → Gam → Option Gam) (ds : List D) (Γ : Gam) : Option Gam := match ds with
  | [] => none
  | d :: r => (f d Γ).bind (g r)
def unD : D → Option (List D)
  | .tup ds => some ds
  | .lst ds => some ds
  | _ => none
def tgTup (g : List D → Gam → Option Gam) (d : D) (Γ : Gam) : Option Gam := match unD d with
  | some ds => g ds Γ
  | none => none
theorem tgTup_at {g : List D → Gam → Option Gam} {d : D} {ds : List D} {Γ : Gam} (h : unD d = some ds) : tgTup g d Γ = g ds Γ := by
  unfold tgTup
  rw [h]
theorem tgs_nil : TgsM F [] tgNil := by
  refine ⟨gNil, fun X _ => pgs_nil, fun H0 σ S H vs ds Γ Γ' Q hh r e q => ?_⟩
  cases r with
  | nil => cases e; exact ⟨rfl, q σ hh rfl fun _ _ => rfl⟩
  | cons _ _ => cases e
theorem tgs_cons {e : Expr} {es : List Expr} {f : D → Gam → Option Gam} {g : List D → Gam → Option Gam} (h : TgM F e f) (k : TgsM F es g) (hs : ∀ X, F.Xs X → (assignEach (e :: es) X.env).map (·.2) = assign e X.env :: (assignEach es X.env).map (·.2) := by intros; rfl) : TgsM F (e :: es) (tgCons f g) := by
  obtain ⟨t, p, ft⟩ := h
  obtain ⟨u, q, fu⟩ := k
  refine ⟨gCons t u, fun X hX => pgs_cons (p X hX) (q X hX) (hs X hX), fun H0 σ S H vs ds Γ Γ' Q hh r e qq => ?_⟩
  cases r with
  | nil => cases e
  | @cons v vs d ds rv rs =>
    have e : (f d Γ).bind (g ds) = some Γ' := e
    cases z : f d Γ with
    | none => rw [z] at e; cases e
    | some Γ1 =>
      rw [z] at e
      refine ⟨v, vs, rfl, ft H0 σ S H v d Γ Γ1 _ hh rv z fun σ1 h1 l1 k1 => ?_⟩
      exact fu H0 σ1 S H vs ds Γ1 Γ' Q h1 rs e fun σ2 h2 l2 k2 => qq σ2 h2 (l2.trans l1) fun i hi => (k2 i hi).trans (k1 i hi)
theorem tg_tup {es : List Expr} {k : Nat} {g : List D → Gam → Option Gam} (n : Nat) (h : TgsM F es g) (hcm : F.cm = true) (hl : ∀ ds Γ, g ds Γ ≠ none → ds.length = n) (hn : ∀ X, F.Xs X → (assignEach es X.env).length = n := by intros; rfl) (hst : ∀ X, F.Xs X → (assignEach es X.env).findIdx? (·.1) = none := by intros; rfl) : TgM F (.Tuple es k pos) (tgTup g) := by
  obtain ⟨t, p, f⟩ := h
  refine ⟨fun v σ H Q => gTup F.G.K n t v σ H Q ∨ gLst F.G.K n t v σ H Q, fun X hX => ?_, fun H0 σ S H v d Γ Γ' Q hh r e q => ?_⟩
  · have h := pg_tup (pos := pos) (k := k) (F.hc hcm X hX) (p X hX) (hn X hX) (hst X hX)
    rw [F.hK X hX] at h
    have h' := pg_lst (pos := pos) (k := k) (F.hc hcm X hX) (p X hX) (hn X hX) (hst X hX)
    rw [F.hK X hX] at h'
    exact ⟨fun pins s σ H v u Q I r hw => hw.elim (h.run pins s σ H v u Q I r) (h'.run pins s σ H v u Q I r)⟩
  · cases r with
    | tup h r =>
      rename_i ds
      have e : g ds Γ = some Γ' := e
      exact .inl ⟨_, _, rfl, SqT.of (hh.ex _ _ h), by rw [r.length]; exact hl ds Γ (by rw [e]; exact fun z => by cases z), f H0 σ S H _ ds Γ Γ' Q hh r e q⟩
    | lst h r =>
      rename_i ds
      have e : g ds Γ = some Γ' := e
      exact .inr ⟨_, _, rfl, SqL.of (hh.ex _ _ h), by rw [r.length]; exact hl ds Γ (by rw [e]; exact fun z => by cases z), f H0 σ S H _ ds Γ Γ' Q hh r e q⟩
    | _ => cases e
theorem tgc_len {f : D → Gam → Option Gam} {g : List D → Gam → Option Gam} {n : Nat} (h : ∀ ds Γ, g ds Γ ≠ none → ds.length = n) : ∀ ds Γ, tgCons f g ds Γ ≠ none → ds.length = n + 1
  | [], _, z => absurd rfl z
  | d :: ds, Γ, z => by
    have z : (f d Γ).bind (g ds) ≠ none := z
    cases q : f d Γ with
    | none => rw [q] at z; exact absurd rfl z
    | some Γ1 => rw [q] at z; exact congrArg (· + 1) (h ds Γ1 z)
theorem tgn_len : ∀ ds Γ, tgNil ds Γ ≠ none → ds.length = 0
  | [], _, _ => rfl
  | _ :: _, _, z => absurd rfl z
theorem bm_asgT {X S : Type} {fx : X → Gam} {fs : S → Gam} {x0 : X} {tf : D → Gam → Option Gam} {rest : List Stmt} {k : D → Ctl X S} (he : EM F e Γ m) (ht : TgM F tg tf) (w : Weak Γ (fx x0))
    (hr : ∀ d, (∃ Γ', tf d Γ = some Γ' ∧ BM F rest Γ' ((k d).out fx fs)) ∨ k d = .stk) (hs : ∀ X, F.Xs X → swapsWithSole [tg] e pos.line X.env = pure false := by intros; rfl) (hw : ∀ X, F.Xs X → swappedStores [tg] e X.env = pure none := by intros; rfl)
    (h1 : ∀ X, F.Xs X → (assignEach [tg] X.env).map (·.2) = [assign tg X.env] := by intros; rfl) : BM F (.Assign [tg] e pos :: rest) Γ ((m.bindC x0 k).out fx fs) := by
  obtain ⟨t, p, q⟩ := he
  obtain ⟨g, pg, eg⟩ := ht
  refine bm_cons (fun X hX => ps_asg (p X hX) (pg X hX) (hs X hX) (hw X hX) (h1 X hX)) fun S0 H0 Dn σ S H gr hh po => ?_
  refine q H0 σ S H _ hh ((opo_bind gr hh w po).imp fun d S1 H1 _ ⟨g1, h1, p1⟩ v r => ?_)
  rcases hr d with ⟨Γ', e', hb⟩ | z
  · exact eg H0 σ S1 H1 v d Γ Γ' _ h1 r e' fun σ' h2 _ _ => hb.c S0 H0 Dn σ' S1 H1 g1 h2 p1
  · rw [z] at p1
    exact False.elim p1
theorem Holds.setOwn {H0 : Hp} {σ : L2.St} {S H S' H' : Hp} {i : Nat} {p : Addr} {d : D} (h : Holds G H0 σ S H Γ) (g : Grow S H S' H') (hp : S' p = none) (hn : H p = none) (o : OwnAt G H0 S' H' p d) : Holds G H0 (σ.set i (some (.ref p))) S' H' (Γ.set i (Sl.own d)) := by
  have h2 := h.grow g
  have old : ∀ {j : Nat} {e : D} {q : Addr}, Γ[j]? = some (Sl.own e) → σ[j]? = some (some (.ref q)) → q ≠ p := fun {j e q} a b z => by
    obtain ⟨q', b', _, _, o'⟩ := h.own j e a
    rw [b] at b'
    cases b'
    subst z
    exact o'.there hn
  refine ⟨h2.ex, h2.e0, by simpa using h2.len, fun j e q => ?_, fun j e q => ?_, fun j k a b r q1 q2 q3 q4 => ?_, fun j a q => by obtain ⟨n, q⟩ := set_ref q (fun _ z => by cases z); rw [List.getElem?_set_ne n]; exact h2.ref j a q⟩
  · by_cases z : i = j
    · subst z
      by_cases hl : i < Γ.length
      · rw [List.getElem?_set_self hl] at q; cases q
      · rw [List.getElem?_eq_none (by simpa using hl)] at q; cases q
    · rw [List.getElem?_set_ne z] at q ⊢
      exact h2.val j e q
  · by_cases z : i = j
    · subst z
      by_cases hl : i < Γ.length
      · rw [List.getElem?_set_self hl] at q
        cases q
        exact ⟨p, List.getElem?_set_self (Nat.lt_of_lt_of_le hl h.len), hp, h.e0.free hn, o⟩
      · rw [List.getElem?_eq_none (by simpa using hl)] at q; cases q
    · rw [List.getElem?_set_ne z] at q ⊢
      exact h2.own j e q
  · by_cases z1 : i = j
    · by_cases z2 : i = k
      · exact z1.symm.trans z2
      · subst z1
        rw [List.getElem?_set_ne z2] at q2 q4
        have hl : i < σ.length := by
          by_cases hl : i < σ.length
          · exact hl
          · rw [List.getElem?_eq_none (by simpa using hl)] at q3; cases q3
        rw [List.getElem?_set_self hl] at q3
        cases q3
        exact absurd rfl (old q2 q4)
    · by_cases z2 : i = k
      · subst z2
        rw [List.getElem?_set_ne z1] at q1 q3
        have hl : i < σ.length := by
          by_cases hl : i < σ.length
          · exact hl
          · rw [List.getElem?_eq_none (by simpa using hl)] at q4; cases q4
        rw [List.getElem?_set_self hl] at q4
        cases q4
        exact absurd rfl (old q1 q3)
      · rw [List.getElem?_set_ne z1] at q1 q3
        rw [List.getElem?_set_ne z2] at q2 q4
        exact h2.dis j k a b r q1 q2 q3 q4
def EvF (F : Fm) (te : TE) (Γ : Gam) (m : M D) : Prop := ∀ H0 σ S H Q, Holds F.G H0 σ S H Γ → Po F.G (WE F.W σ) S H (fun d S' H' => ∀ p, S' p = none → H p = none → OwnAt F.G H0 S' H' p d → Q (.ref p) H') m → te σ H Q
def FE (F : Fm) (e : Expr) (Γ : Gam) (m : M D) : Prop := ∃ te, (∀ X, F.Xs X → PE X e te) ∧ EvF F te Γ m
theorem fe_lst {ml : M (List D)} (h : AM F es Γ ml) : FE F (.List es pos) Γ (b1 mkLst ml) := by
  obtain ⟨t, p, f⟩ := h
  refine ⟨tLst t, fun X hX => pe_lst (p X hX), fun H0 σ S H Q hh po => ?_⟩
  refine f H0 σ S H _ hh (Po.bind po |>.imp fun ds S1 H1 g1 k vs r => ?_)
  obtain ⟨hl, k⟩ := Po.gate (m := M.ok (D.lst ds)) k
  refine ⟨by rw [r.length]; exact hl, fun q hq => ?_⟩
  exact k S1 _ (Grow.newOwn g1.sub hq) q (sub_none g1.sub hq) (g1.h.free hq) ⟨vs, upd_same, r⟩
theorem fe_dict0 : FE F (.Dict [] [] pos) Γ (.ok (.dct [])) := by
  refine ⟨tDNewT, fun X hX => pe_dnewT, fun H0 σ S H Q hh po => fun q hq => ?_⟩
  exact po S _ (Grow.newOwn hh.ex hq) q (sub_none hh.ex hq) hq ⟨[], upd_same, rfl, .nil⟩
def GF (F : Fm) (st : Stmt) (i : Nat) (Γ : Gam) (m : M D) : Prop := ∃ te, (∀ X, F.Xs X → PS X st (tAsg te (gName i))) ∧ EvF F te Γ m
theorem gf_set (i : Nat) {x : Str} {pos' : Pos} (hi : F.N[i]? = some x) (hl : F.L[i]? = some true) (he : FE F e Γ m) (hs : ∀ X, F.Xs X → swapsWith e (some (.Name x pos')) pos.line X.env = pure false := by intros; rfl) : GF F (.Assign [.Name x pos'] e pos) i Γ m := by
  obtain ⟨t, p, q⟩ := he
  refine ⟨t, fun X hX => ?_, q⟩
  have h := F.loc X hX i x hl hi
  have hn := F.hN X hX
  exact ps_set (by rw [hn]; exact F.nd) (by rw [hn]; exact hi) h.1 (p X hX) (hs X hX) h.2
theorem bm_asgO {X S : Type} {fx : X → Gam} {fs : S → Gam} {x0 : X} {st : Stmt} {rest : List Stmt} (i : Nat) {k : D → Ctl X S} (h : GF F st i Γ m) (w : Weak Γ (fx x0)) (hr : ∀ d, BM F rest (Γ.set i (Sl.own d)) ((k d).out fx fs)) : BM F (st :: rest) Γ ((m.bindC x0 k).out fx fs) := by
  obtain ⟨t, p, q⟩ := h
  refine bm_cons p fun S0 H0 Dn σ S H g hh po => ?_
  have pb := opo_bind g hh w po
  refine q H0 σ S H _ hh (pb.imp fun d S1 H1 gg ⟨g1, _, p1⟩ a h1 h2 o => ?_)
  exact (hr d).c S0 H0 Dn _ S1 H1 g1 (hh.setOwn gg h1 h2 o) p1
theorem bm_give {sts : List Stmt} {o : Out} (i : Nat) {d : D} (hi : Γ[i]? = some (Sl.own d)) (h : BM F sts (Γ.set i (Sl.val d)) o) : BM F sts Γ o := by
  refine ⟨cB F sts, fun X hX => cB_ok X hX, fun S0 H0 Dn σ S H g hh po => ?_⟩
  obtain ⟨p, hp, hs, h0, oa⟩ := hh.own i d hi
  have hl : i < Γ.length := (List.getElem?_eq_some_iff.mp hi).1
  have key : ∀ S1, Ex S S1 → Ex S1 H → (∀ q, H0 q ≠ none → S q = none → S1 q = none) → Rep F.G S1 (.ref p) d → (∀ j e q, Γ[j]? = some (Sl.own e) → j ≠ i → σ[j]? = some (some (.ref q)) → S1 q = none ∧ OwnAt F.G H0 S1 H q e) → cB F sts Dn σ H := by
    intro S1 e1 e2 e3 r ow
    refine h.c S0 H0 Dn σ S1 H ⟨g.s.trans e1, g.h, e2, fun q a b => e3 q a.ne (g.sep q a b)⟩ ?_ po
    refine ⟨e2, hh.e0, by simpa using hh.len, fun j e q => ?_, fun j e q => ?_, fun j k a b r q1 q2 q3 q4 => ?_, fun j a q => ⟨(hh.ref j a (set_ref q (fun _ z => by cases z)).2).1, (hh.ref j a (set_ref q (fun _ z => by cases z)).2).2.mono e1⟩⟩
    · by_cases z : i = j
      · subst z
        rw [List.getElem?_set_self hl] at q
        cases q
        exact ⟨_, hp, r⟩
      · rw [List.getElem?_set_ne z] at q
        obtain ⟨v, hv, rv⟩ := hh.val j e q
        exact ⟨v, hv, rv.mono e1⟩
    · by_cases z : i = j
      · subst z
        rw [List.getElem?_set_self hl] at q
        cases q
      · rw [List.getElem?_set_ne z] at q
        obtain ⟨a, b, c, d', o'⟩ := hh.own j e q
        obtain ⟨c', o'⟩ := ow j e a q (Ne.symm z) b
        exact ⟨a, b, c', d', o'⟩
    · have n1 : i ≠ j := fun z => by subst z; rw [List.getElem?_set_self hl] at q1; cases q1
      have n2 : i ≠ k := fun z => by subst z; rw [List.getElem?_set_self hl] at q2; cases q2
      rw [List.getElem?_set_ne n1] at q1
      rw [List.getElem?_set_ne n2] at q2
      exact hh.dis j k a b r q1 q2 q3 q4
  have others : ∀ (S1 : Hp), Ex S S1 → (∀ q, S q = none → q ≠ p → (∀ b, H q = some (.own b) → b ≠ p) → S1 q = none) → ∀ (j : Nat) e q, Γ[j]? = some (Sl.own e) → j ≠ i → σ[j]? = some (some (.ref q)) → S1 q = none ∧ OwnAt F.G H0 S1 H q e := by
    intro S1 e1 hn j e q hj ne hσ
    obtain ⟨q', b', c, _, o'⟩ := hh.own j e hj
    rw [hσ] at b'
    cases b'
    have nq : q ≠ p := fun z => by subst z; exact ne (hh.dis j i e d q hj hi hσ hp)
    have nown : ∀ b, H q = some (.own b) → b ≠ p := fun b hb => by
      cases e with
      | lst ds => obtain ⟨_, e, _⟩ := o'; rw [e] at hb; cases hb
      | dct ds => obtain ⟨_, e, _⟩ := o'; rw [e] at hb; cases hb
      | dks ds => obtain ⟨_, e, _⟩ := o'; rw [e] at hb; cases hb
      | obj c fs => obtain ⟨_, _, e, _⟩ := o'; rw [e] at hb; cases hb
      | slf a0 c fs => obtain ⟨_, _, _, e, _⟩ := o'; rw [e] at hb; cases hb
      | _ => exact False.elim o'
    refine ⟨hn q c nq nown, ?_⟩
    cases e with
    | lst ds => obtain ⟨vs, e, r⟩ := o'; exact ⟨vs, e, r.mono e1⟩
    | dct ds => obtain ⟨vs, e, n, r⟩ := o'; exact ⟨vs, e, n, r.mono e1⟩
    | dks ds => obtain ⟨vs, e, n, r⟩ := o'; exact ⟨vs, e, n, r.mono e1⟩
    | obj c fs =>
      obtain ⟨dx, vs, e, e2, e3, e4, n, r⟩ := o'
      refine ⟨dx, vs, e, e2, hn dx e3 (fun z => ?_) (fun b hb => by rw [e2] at hb; cases hb; exact nq), e4, n, r.mono e1⟩
      subst z
      cases d with
      | lst ds => obtain ⟨_, z, _⟩ := oa; rw [e2] at z; cases z
      | dct ds => obtain ⟨_, z, _⟩ := oa; rw [e2] at z; cases z
      | dks ds => obtain ⟨_, z, _⟩ := oa; rw [e2] at z; cases z
      | obj c fs => obtain ⟨_, _, z, _⟩ := oa; rw [e2] at z; cases z
      | slf a0 c fs => obtain ⟨_, _, _, z, _⟩ := oa; rw [e2] at z; cases z
      | _ => exact False.elim oa
    | slf a0 c fs =>
      obtain ⟨hp0, dx, vs, e, e2, e3, e4, n, r⟩ := o'
      refine ⟨hp0, dx, vs, e, e2, hn dx e3 (fun z => ?_) (fun b hb => by rw [e2] at hb; cases hb; exact nq), e4, n, r.mono e1⟩
      subst z
      cases d with
      | lst ds => obtain ⟨_, z, _⟩ := oa; rw [e2] at z; cases z
      | dct ds => obtain ⟨_, z, _⟩ := oa; rw [e2] at z; cases z
      | dks ds => obtain ⟨_, z, _⟩ := oa; rw [e2] at z; cases z
      | obj c fs => obtain ⟨_, _, z, _⟩ := oa; rw [e2] at z; cases z
      | slf a0 c fs => obtain ⟨_, _, _, z, _⟩ := oa; rw [e2] at z; cases z
      | _ => exact False.elim oa
    | _ => exact False.elim o'
  have one : ∀ o, H p = some o → Rep F.G (upd S p o) (.ref p) d → cB F sts Dn σ H := fun o ho r => by
    refine key (upd S p o) (ex_upd hs) (fun a u q => ?_) (fun q a b => ?_) r (others _ (ex_upd hs) fun q a b _ => by rw [upd_ne b]; exact a)
    · by_cases z : a = p
      · subst z; rw [upd_same] at q; rw [ho]; exact q
      · rw [upd_ne z] at q; exact hh.ex a u q
    · rw [upd_ne (fun z => by subst z; exact a h0)]; exact b
  cases d with
  | lst ds => obtain ⟨vs, e, r⟩ := oa; exact one _ e (.lst upd_same (r.mono (ex_upd hs)))
  | dct ds => obtain ⟨vs, e, n, r⟩ := oa; exact one _ e (.dct (.inl upd_same) n (r.mono (ex_upd hs)))
  | dks ds => obtain ⟨vs, e, n, r⟩ := oa; exact one _ e (.dks (.inl upd_same) n (r.mono (ex_upd hs)))
  | obj c fs =>
    obtain ⟨dx, vs, e, e2, e3, e4, n, r⟩ := oa
    have nd : dx ≠ p := fun z => by subst z; rw [e2] at e; cases e
    have x1 : Ex S (upd S dx (.own p)) := ex_upd e3
    have hs1 : (upd S dx (.own p)) p = none := by rw [upd_ne (Ne.symm nd)]; exact hs
    have x2 : Ex S (upd (upd S dx (.own p)) p (.ins (F.G.ca c) dx vs)) := x1.trans (ex_upd hs1)
    refine key _ x2 (fun a u q => ?_) (fun q a b => ?_) (.obj upd_same (by rw [upd_ne nd, upd_same]) n (r.mono x2)) (others _ x2 fun q a b cc => ?_)
    · by_cases z : a = p
      · subst z; rw [upd_same] at q; rw [e]; exact q
      · rw [upd_ne z] at q
        by_cases z2 : a = dx
        · subst z2; rw [upd_same] at q; rw [e2]; exact q
        · rw [upd_ne z2] at q; exact hh.ex a u q
    · rw [upd_ne (fun z => by subst z; exact a h0)]
      by_cases z2 : q = dx
      · subst z2
        exact absurd e4 a
      · rw [upd_ne z2]; exact b
    · rw [upd_ne b]
      by_cases z2 : q = dx
      · subst z2; exact absurd rfl (cc p e2)
      · rw [upd_ne z2]; exact a
  | slf a0 c fs =>
    obtain ⟨hp0, dx, vs, e, e2, e3, e4, n, r⟩ := oa
    subst hp0
    have nd : dx ≠ p := fun z => by subst z; rw [e2] at e; cases e
    have x1 : Ex S (upd S dx (.own p)) := ex_upd e3
    have hs1 : (upd S dx (.own p)) p = none := by rw [upd_ne (Ne.symm nd)]; exact hs
    have x2 : Ex S (upd (upd S dx (.own p)) p (.ins (F.G.ca c) dx vs)) := x1.trans (ex_upd hs1)
    refine key _ x2 (fun a u q => ?_) (fun q a b => ?_) (.slf upd_same (by rw [upd_ne nd, upd_same]) n (r.mono x2)) (others _ x2 fun q a b cc => ?_)
    · by_cases z : a = p
      · subst z; rw [upd_same] at q; rw [e]; exact q
      · rw [upd_ne z] at q
        by_cases z2 : a = dx
        · subst z2; rw [upd_same] at q; rw [e2]; exact q
        · rw [upd_ne z2] at q; exact hh.ex a u q
    · rw [upd_ne (fun z => by subst z; exact a h0)]
      by_cases z2 : q = dx
      · subst z2
        exact absurd e4 a
      · rw [upd_ne z2]; exact b
    · rw [upd_ne b]
      by_cases z2 : q = dx
      · subst z2; exact absurd rfl (cc p e2)
      · rw [upd_ne z2]; exact a
  | _ => exact False.elim oa
end
end Mir
namespace Mir
open PySem PySem.Spec L2
section
variable {F : Fm} {Γ : Gam} {X S : Type} {fx : X → Gam} {fs : S → Gam} {x0 : X} {a b c e : Expr} {es : List Expr} {ma mb mc m mk mv : M D} {mt : M Bool} {pos : Pos} {st : Stmt} {rest body : List Stmt} {G : GG}
theorem Holds.ownUpd {H0 : Hp} {σ : L2.St} {S H : Hp} {i : Nat} {p : Addr} {d d' : D} {o : HO} (h : Holds G H0 σ S H Γ) (hi : Γ[i]? = some (Sl.own d)) (hp : σ[i]? = some (some (.ref p))) (hs : S p = none) (h0 : H0 p = none)
    (hno : ∀ b, H p ≠ some (.own b)) (n : OwnAt G H0 S (upd H p o) p d') : Holds G H0 σ S (upd H p o) (Γ.set i (Sl.own d')) := by
  have hl : i < Γ.length := (List.getElem?_eq_some_iff.mp hi).1
  refine ⟨fun a u q => ?_, fun a u q => ?_, by simpa using h.len, fun j e q => ?_, fun j e q => ?_, fun j k a b r q1 q2 q3 q4 => ?_, fun j a q => h.ref j a (set_ref q (fun _ z => by cases z)).2⟩
  · rw [upd_ne (fun z => by subst z; rw [hs] at q; cases q)]; exact h.ex a u q
  · rw [upd_ne (fun z => by subst z; rw [h0] at q; cases q)]; exact h.e0 a u q
  · by_cases z : i = j
    · subst z; rw [List.getElem?_set_self hl] at q; cases q
    · rw [List.getElem?_set_ne z] at q
      exact h.val j e q
  · by_cases z : i = j
    · subst z
      rw [List.getElem?_set_self hl] at q
      cases q
      exact ⟨p, hp, hs, h0, n⟩
    · rw [List.getElem?_set_ne z] at q
      obtain ⟨r, a, b, c, o'⟩ := h.own j e q
      have ne : r ≠ p := fun y => by subst y; exact z (h.dis i j d e r hi q hp a)
      refine ⟨r, a, b, c, ?_⟩
      cases e with
      | lst ds => obtain ⟨vs, e, r⟩ := o'; exact ⟨vs, by rw [upd_ne ne]; exact e, r⟩
      | dct ds => obtain ⟨vs, e, n, r⟩ := o'; exact ⟨vs, by rw [upd_ne ne]; exact e, n, r⟩
      | dks ds => obtain ⟨vs, e, n, r⟩ := o'; exact ⟨vs, by rw [upd_ne ne]; exact e, n, r⟩
      | obj c fs =>
        obtain ⟨dx, vs, e, e2, e3, e4, n, r⟩ := o'
        exact ⟨dx, vs, by rw [upd_ne ne]; exact e, by rw [upd_ne (fun y => by subst y; exact hno _ e2)]; exact e2, e3, e4, n, r⟩
      | slf a0 c fs =>
        obtain ⟨hp, dx, vs, e, e2, e3, e4, n, r⟩ := o'
        exact ⟨hp, dx, vs, by rw [upd_ne ne]; exact e, by rw [upd_ne (fun y => by subst y; exact hno _ e2)]; exact e2, e3, e4, n, r⟩
      | _ => exact False.elim o'
  · have h1 : ∀ {j : Nat} {a : D}, (Γ.set i (Sl.own d'))[j]? = some (Sl.own a) → ∃ a', Γ[j]? = some (Sl.own a') := fun {j a} q => by
      by_cases z : i = j
      · subst z; exact ⟨d, hi⟩
      · rw [List.getElem?_set_ne z] at q; exact ⟨a, q⟩
    obtain ⟨a', q1⟩ := h1 q1
    obtain ⟨b', q2⟩ := h1 q2
    exact h.dis j k a' b' r q1 q2 q3 q4
theorem Grow.own {S0 H0 S H : Hp} {p : Addr} {o : HO} (g : Grow S0 H0 S H) (hs : S p = none) (h0 : H0 p = none) : Grow S0 H0 S (upd H p o) :=
  ⟨g.s, fun a u q => by rw [upd_ne (fun z => by subst z; rw [h0] at q; cases q)]; exact g.h a u q, fun a u q => by rw [upd_ne (fun z => by subst z; rw [hs] at q; cases q)]; exact g.sub a u q, g.sep⟩
def appM (d : D) (m : M D) : M D := match d with
  | .lst xs => m.bind fun y => if xs.length < sizeLine then .ok (.lst (xs ++ [y])) else .stk
  | _ => .stk
theorem pvar (i : Nat) {x : Str} {p : Pos} (hi : F.N[i]? = some x) (hv : F.V[i]? = some true) (Y : Cx) (hY : F.Xs Y) (hd : (x == ("__debug__" : Str)) = false := by decide) (hcd : (x == ("__classdict__" : Str)) = false := by decide) : PE Y (.Name x p) (tVar i) :=
  pe_var (by rw [F.hN Y hY]; exact hi) (F.vis Y hY i x hv hi) hd hcd
theorem bm_app (i : Nat) {ce : Expr} {d : D} {pos' : Pos} {k : D → Ctl X S} (hΓ : Γ[i]? = some (Sl.own d)) (he : EM F e Γ m) (w : Weak Γ (fx x0)) (hr : ∀ d', BM F rest (Γ.set i (Sl.own d')) ((k d').out fx fs))
    (hp : ∀ t, (∀ Y, F.Xs Y → PE Y e t) → ∀ Y, F.Xs Y → PE Y ce (tBM Y.K "list" rAppend (tVar i) (tCons t tNil)))
    (hs : ∀ X, F.Xs X → swapsWith ce none pos'.line X.env = pure false := by intros; rfl) :
    BM F (.Expr ce pos' :: rest) Γ (((appM d m).bindC x0 k).out fx fs) := by
  obtain ⟨t, q, f⟩ := he
  have hp : ∀ X, F.Xs X → PE X ce (tBM F.G.K "list" rAppend (tVar i) (tCons t tNil)) := fun X hX => by
    have h := hp t q X hX
    rw [F.hK X hX] at h
    exact h
  refine bm_cons (fun X hX => ps_expr (hp X hX) (hs X hX)) fun S0 H0 Dn σ S H g hh po => ?_
  obtain ⟨r, hσ, hS, h0, oa⟩ := hh.own i d hΓ
  cases d with
  | lst xs =>
    obtain ⟨vs, hH, rs⟩ := oa
    refine ⟨.ref r, hσ, .inl ⟨rfl, _, SqL.of hH⟩, ?_⟩
    have pb := opo_bind g hh w po
    refine f H0 σ S H _ hh ((Po.bind pb).imp fun y S1 H1 g1 q1 v rv => ?_)
    obtain ⟨hl, q1⟩ := Po.gate (m := M.ok (D.lst (xs ++ [y]))) q1
    obtain ⟨g2, h2, p2⟩ := q1.ok g1.sub
    have hH1 := g1.h _ _ hH
    have hS1 := g1.sep r ⟨_, hH, fun _ z => by cases z⟩ hS
    refine ⟨r, vs, v, rfl, rfl, hH1, by rw [rs.length]; exact hl, ?_⟩
    exact (hr _).c S0 H0 Dn σ S1 _ (g2.own hS1 h0) (h2.ownUpd (d' := .lst (xs ++ [y])) hΓ hσ hS1 h0 (fun b z => by rw [hH1] at z; cases z) ⟨_, upd_same, (rs.mono g1.s).append (.cons rv .nil)⟩) p2
  | _ => exact False.elim po
def putD {κ : Type} [DecidableEq κ] (kvs : List (κ × D)) (k : κ) (v : D) : List (κ × D) :=
  if (kvs.any fun kv => decide (kv.1 = k)) = true then kvs.map (fun kv => if kv.1 = k then (kv.1, v) else kv) else kvs ++ [(k, v)]
theorem put_rep {S : Hp} {κ : Type} [DecidableEq κ] {k : κ} {v : V} {d : D} (h : Rep G S v d) : ∀ {ks : List (κ × V)} {kvs : List (κ × D)}, ks.map (·.1) = kvs.map (·.1) → Reps G S (ks.map (·.2)) (kvs.map (·.2)) →
    (putK ks k v).map (·.1) = (putD kvs k d).map (·.1) ∧ Reps G S ((putK ks k v).map (·.2)) ((putD kvs k d).map (·.2)) := by
  intro ks kvs n r
  have ha : (ks.any fun kv => decide (kv.1 = k)) = (kvs.any fun kv => decide (kv.1 = k)) := by
    have : ∀ {ks : List (κ × V)} {kvs : List (κ × D)}, ks.map (·.1) = kvs.map (·.1) → (ks.any fun kv => decide (kv.1 = k)) = (kvs.any fun kv => decide (kv.1 = k)) := by
      intro ks
      induction ks with
      | nil => intro kvs n; cases kvs with
        | nil => rfl
        | cons _ _ => cases n
      | cons a ks ih => intro kvs n; cases kvs with
        | nil => cases n
        | cons b kvs =>
          obtain ⟨n1, n2⟩ := List.cons.inj n
          rw [List.any_cons, List.any_cons, ih n2, show a.1 = b.1 from n1]
    exact this n
  unfold putK putD
  rw [ha]
  split
  · have : ∀ {ks : List (κ × V)} {kvs : List (κ × D)}, ks.map (·.1) = kvs.map (·.1) → Reps G S (ks.map (·.2)) (kvs.map (·.2)) →
        (ks.map (fun kv => if kv.1 = k then (kv.1, v) else kv)).map (·.1) = (kvs.map (fun kv => if kv.1 = k then (kv.1, d) else kv)).map (·.1) ∧ Reps G S ((ks.map (fun kv => if kv.1 = k then (kv.1, v) else kv)).map (·.2)) ((kvs.map (fun kv => if kv.1 = k then (kv.1, d) else kv)).map (·.2)) := by
      intro ks
      induction ks with
      | nil => intro kvs n r; cases kvs with
        | nil => exact ⟨rfl, .nil⟩
        | cons _ _ => cases n
      | cons a ks ih => intro kvs n r; cases kvs with
        | nil => cases n
        | cons b kvs =>
          obtain ⟨n1, n2⟩ := List.cons.inj n
          obtain ⟨a1, a2⟩ := a
          obtain ⟨b1, b2⟩ := b
          have n1 : a1 = b1 := n1
          subst n1
          cases r with
          | cons r1 r2 =>
            obtain ⟨i1, i2⟩ := ih n2 r2
            by_cases z : a1 = k
            · simp only [List.map_cons, z, if_true] at i1 i2 ⊢
              exact ⟨by rw [i1], .cons h i2⟩
            · simp only [List.map_cons, z, if_false] at i1 i2 ⊢
              exact ⟨by rw [i1], .cons r1 i2⟩
    exact this n r
  · rw [List.map_append, List.map_append, List.map_append, List.map_append, n]
    exact ⟨rfl, r.append (.cons h .nil)⟩
def setM (d : D) (mv mk : M D) : M D := match d with
  | .dct kvs => mv.bind fun v => mk.bind fun k => match k with
    | .tup ks => (ofOpt (keysOf ks)).bind fun k => if kvs.length < sizeLine then .ok (.dct (putD kvs k v)) else .stk
    | _ => .stk
  | .dks kvs => mv.bind fun v => mk.bind fun k => (ofOpt (keyOf k)).bind fun k => if kvs.length < sizeLine then .ok (.dks (putD kvs k v)) else .stk
  | .lst xs => mv.bind fun v => mk.bind fun k => match k with
    | .int i => (ofOpt (ixN xs.length i)).bind fun j => .ok (.lst (xs.set j v))
    | _ => .stk
  | _ => .stk
theorem PS_or {X : Cx} {e : Stmt} {t u : TS} (h : PS X e t) (k : PS X e u) : PS X e (fun D σ H => t D σ H ∨ u D σ H) :=
  ⟨fun pins s σ H D I q => q.elim (h.run pins s σ H D I) (k.run pins s σ H D I)⟩
theorem rep_key {S : Hp} {v : V} {d : D} {k : Key} (r : Rep G S v d) (h : keyOf d = some k) : v = kV k := by
  cases r <;> first | (cases h; rfl) | cases h
theorem bm_setitem (i : Nat) {x : Str} {d : D} {p p2 : Pos} {ki vi : Expr} {k : D → Ctl X S} (hi : F.N[i]? = some x) (hv : F.V[i]? = some true) (hΓ : Γ[i]? = some (Sl.own d)) (hvv : EM F vi Γ mv) (hk : EM F ki Γ mk) (w : Weak Γ (fx x0)) (hr : ∀ d', BM F rest (Γ.set i (Sl.own d')) ((k d').out fx fs))
    (hd : (x == ("__debug__" : Str)) = false := by decide) (hcd : (x == ("__classdict__" : Str)) = false := by decide)
    (hs : ∀ X, F.Xs X → swapsWith vi (some (.Subscript (.Name x p) ki p2)) pos.line X.env = pure false := by intros; rfl)
    (hs1 : ∀ X, F.Xs X → swapsWithSole [.Subscript (.Name x p) ki p2] vi pos.line X.env = pure false := by intros; rfl) (hw : ∀ X, F.Xs X → swappedStores [.Subscript (.Name x p) ki p2] vi X.env = pure none := by intros; rfl)
    (h1 : ∀ X, F.Xs X → (assignEach [.Subscript (.Name x p) ki p2] X.env).map (·.2) = [assign (.Subscript (.Name x p) ki p2) X.env] := by intros; rfl)
    (ha : ∀ X, F.Xs X → ∀ v, assign (.Subscript (.Name x p) ki p2) X.env v = (do
      let ov ← holding [v] (eval (.Name x p) X.env)
      let iv ← holding [v, ov] (eval ki X.env)
      standAt p2
      holding [v, ov, iv] (setItem ov iv v)
      release [v, ov, iv] []) := by intros; rfl) :
    BM F (.Assign [.Subscript (.Name x p) ki p2] vi pos :: rest) Γ (((setM d mv mk).bindC x0 k).out fx fs) := by
  obtain ⟨tv, pv', ev⟩ := hvv
  obtain ⟨tk, pk, ek⟩ := hk
  have hx : ∀ X, F.Xs X → PE X (.Name x p) (tVar i) := fun X hX => pe_var (by rw [F.hN X hX]; exact hi) (F.vis X hX i x hv hi) hd hcd
  refine bm_cons (t := fun D σ H => tAsg tv (gSub (tVar i) tk rSetL) D σ H ∨ sDPut (tVar i) tk tv D σ H) (fun X hX => PS_or (ps_asg (pv' X hX) (pg_sub (hx X hX) (pk X hX) set_list (ha X hX)) (hs1 X hX) (hw X hX) (h1 X hX)) (ps_dput (by have := F.hu X hX; omega) (hx X hX) (pk X hX) (pv' X hX) (hs X hX))) fun S0 H0 Dn σ S H g hh po => ?_
  obtain ⟨r, hσ, hS, h0, oa⟩ := hh.own i d hΓ
  have pb := opo_bind g hh w po
  cases d with
  | lst xs =>
    obtain ⟨vs, hH, rs⟩ := oa
    refine .inl (ev H0 σ S H _ hh ((Po.bind pb).imp fun y S1 H1 g1 q1 v rv => ⟨.ref r, hσ, ?_⟩))
    refine ek H0 σ S1 H1 _ (hh.grow g1) ((Po.bind q1).imp fun z S2 H2 g2 q2 u ru => ?_)
    have gg := g1.trans g2
    cases z with
    | int kk =>
      obtain ⟨j, hj, q2⟩ := Po.opt (o := ixN xs.length kk) q2
      obtain ⟨g3, h3, p3⟩ := Po.ok g2.sub q2
      cases ru
      have hH1 := gg.h _ _ hH
      have hS1 := gg.sep r ⟨_, hH, fun _ z => by cases z⟩ hS
      refine ⟨r, vs, kk, j, rfl, rfl, hH1, by rw [rs.length]; exact hj, ?_⟩
      exact (hr _).c S0 H0 Dn σ S2 _ (g3.own hS1 h0) (h3.ownUpd (d' := .lst (xs.set j y)) hΓ hσ hS1 h0 (fun b z => by rw [hH1] at z; cases z) ⟨_, upd_same, Reps.set (rv.mono g2.s) j (rs.mono gg.s)⟩) p3
    | _ => exact False.elim q2
  | dct kvs =>
    obtain ⟨ks, hH, n, rs⟩ := oa
    refine .inr (ev H0 σ S H _ hh ((Po.bind pb).imp fun y S1 H1 g1 q1 v rv => ⟨.ref r, hσ, ?_⟩))
    refine ek H0 σ S1 H1 _ (hh.grow g1) ((Po.bind q1).imp fun z S2 H2 g2 q2 u ru => ?_)
    have gg := g1.trans g2
    cases z with
    | tup zs =>
      obtain ⟨kk, hk, q2⟩ := Po.opt (o := keysOf zs) q2
      obtain ⟨hl, q2⟩ := Po.gate (m := M.ok (D.dct (putD kvs kk y))) q2
      obtain ⟨g3, h3, p3⟩ := Po.ok g2.sub q2
      have hH1 := gg.h _ _ hH
      have hS1 := gg.sep r ⟨_, hH, fun _ z => by cases z⟩ hS
      cases ru with
      | tup hz rz =>
        rw [reps_key rz hk] at hz
        have hlen : ks.length = kvs.length := by have := congrArg List.length n; simpa using this
        obtain ⟨n', r'⟩ := put_rep (k := kk) (rv.mono g2.s) n (rs.mono gg.s)
        refine ⟨r, _, rfl, DPut.t hH1 (g2.sub _ _ hz) (by rw [hlen]; exact hl), ?_⟩
        exact (hr _).c S0 H0 Dn σ S2 _ (g3.own hS1 h0) (h3.ownUpd (d' := .dct (putD kvs kk y)) hΓ hσ hS1 h0 (fun b z => by rw [hH1] at z; cases z) ⟨_, upd_same, n', r'⟩) p3
    | _ => exact False.elim q2
  | dks kvs =>
    obtain ⟨ks, hH, n, rs⟩ := oa
    refine .inr (ev H0 σ S H _ hh ((Po.bind pb).imp fun y S1 H1 g1 q1 v rv => ⟨.ref r, hσ, ?_⟩))
    refine ek H0 σ S1 H1 _ (hh.grow g1) ((Po.bind q1).imp fun z S2 H2 g2 q2 u ru => ?_)
    have gg := g1.trans g2
    obtain ⟨kk, hk, q2⟩ := Po.opt (o := keyOf z) q2
    obtain ⟨hl, q2⟩ := Po.gate (m := M.ok (D.dks (putD kvs kk y))) q2
    obtain ⟨g3, h3, p3⟩ := Po.ok g2.sub q2
    have hH1 := gg.h _ _ hH
    have hS1 := gg.sep r ⟨_, hH, fun _ z => by cases z⟩ hS
    have hlen : ks.length = kvs.length := by have := congrArg List.length n; simpa using this
    obtain ⟨n', r'⟩ := put_rep (k := kk) (rv.mono g2.s) n (rs.mono gg.s)
    have eu := rep_key ru hk
    subst eu
    refine ⟨r, _, rfl, DPut.k hH1 (by rw [hlen]; exact hl), ?_⟩
    exact (hr _).c S0 H0 Dn σ S2 _ (g3.own hS1 h0) (h3.ownUpd (d' := .dks (putD kvs kk y)) hΓ hσ hS1 h0 (fun b z => by rw [hH1] at z; cases z) ⟨_, upd_same, n', r'⟩) p3
  | _ => exact False.elim po
def froz (Γ : Gam) : Gam := Γ.map fun s => match s with
  | .own d => .val d
  | s => s
theorem own_rep {H0 S H : Hp} {p : Addr} {d : D} (e : Ex S H) (h : OwnAt G H0 S H p d) : Rep G H (.ref p) d := by
  cases d with
  | lst ds => obtain ⟨vs, e1, r⟩ := h; exact .lst e1 (r.mono e)
  | dct ds => obtain ⟨vs, e1, n, r⟩ := h; exact .dct (.inl e1) n (r.mono e)
  | dks ds => obtain ⟨vs, e1, n, r⟩ := h; exact .dks (.inl e1) n (r.mono e)
  | obj c fs => obtain ⟨dx, vs, e1, e2, _, _, n, r⟩ := h; exact .obj e1 e2 n (r.mono e)
  | slf a c fs => obtain ⟨rfl, dx, vs, e1, e2, _, _, n, r⟩ := h; exact .slf e1 e2 n (r.mono e)
  | _ => exact False.elim h
theorem Holds.froz {H0 : Hp} {σ : L2.St} {S H : Hp} (h : Holds G H0 σ S H Γ) : Holds G H0 σ H H (froz Γ) := by
  refine ⟨Same.refl _, h.e0, by rw [Mir.froz, List.length_map]; exact h.len, fun i d q => ?_, fun i d q => ?_, fun i j d e p q => ?_, fun i a q => ?_⟩
  · unfold Mir.froz at q
    rw [List.getElem?_map] at q
    cases z : Γ[i]? with
    | none => rw [z] at q; cases q
    | some s =>
      rw [z] at q
      cases s with
      | unk => cases q
      | val d' => cases q; obtain ⟨v, a, r⟩ := h.val i _ z; exact ⟨v, a, r.mono h.ex⟩
      | own d' => cases q; obtain ⟨p, a, _, _, o⟩ := h.own i _ z; exact ⟨_, a, own_rep h.ex o⟩
      | ref a => cases q
  · unfold Mir.froz at q
    rw [List.getElem?_map] at q
    cases z : Γ[i]? with
    | none => rw [z] at q; cases q
    | some s => rw [z] at q; cases s <;> cases q
  · unfold Mir.froz at q
    rw [List.getElem?_map] at q
    cases z : Γ[i]? with
    | none => rw [z] at q; cases q
    | some s => rw [z] at q; cases s <;> cases q
  · unfold Mir.froz at q
    rw [List.getElem?_map] at q
    cases z : Γ[i]? with
    | none => rw [z] at q; cases q
    | some s =>
      rw [z] at q
      cases s with
      | ref b => exact ⟨(h.ref i a (z.trans q)).1, (h.ref i a (z.trans q)).2.mono h.ex⟩
      | _ => cases q
theorem Grow.look {S H S' H' : Hp} (e : Ex S H) (g : Grow H H S' H') : Grow S H S H' := ⟨Same.refl _, g.h, e.trans g.h, fun _ _ h => h⟩
def flatM : M D → M D
  | .ok d => if flatD d = true then .ok d else .stk
  | .exn e => if e.fs.isEmpty = true then .exn e else .stk
  | .stk => .stk
theorem rep_flat_any {S S' : Hp} {v : V} {d : D} (h : flatD d = true) (r : Rep G S v d) : Rep G S' v d := by
  cases r <;> first | exact absurd h Bool.false_ne_true | constructor
theorem em_look (he : EM F e (froz Γ) m) : EM F e Γ (flatM m) := by
  obtain ⟨t, p, f⟩ := he
  refine ⟨t, p, fun H0 σ S H Q hh po => f H0 σ H H _ hh.froz ?_⟩
  cases m with
  | stk => exact po
  | exn x =>
    obtain ⟨h, po⟩ := Po.gate (m := (M.exn x : M D)) po
    refine fun cls dd S' H' g r => po cls dd S H' (Grow.look hh.ex g) ⟨r.1, .inl ?_⟩
    have q0 : x.fs = [] := by
      cases q : x.fs with
      | nil => rfl
      | cons _ _ => rw [q] at h; cases h
    exact r.2.elim id fun z => absurd q0 z.1
  | ok d =>
    obtain ⟨h, po⟩ := Po.gate (m := M.ok d) po
    exact fun S' H' g v r => po S H' (Grow.look hh.ex g) v (rep_flat_any h r)
def nofs : M Bool → M Bool
  | .exn _ => .stk
  | m => m
theorem tm_look (he : TM F e (froz Γ) mt) : TM F e Γ (nofs mt) := by
  obtain ⟨t, p, f⟩ := he
  refine ⟨t, p, fun H0 σ S H Q hh po => f H0 σ H H _ hh.froz ?_⟩
  cases mt with
  | stk => exact po
  | exn x => exact False.elim po
  | ok d => exact fun S' H' g => po S H' (Grow.look hh.ex g)
end
end Mir
namespace Mir
open PySem PySem.Spec L2
open PyProof.Rows (envOfC)
theorem all_at {N : List Str} {V : List Bool} {p : Nat → Bool} {i : Nat} {x : Str} (h : ((List.range N.length).all fun i => !(V.getD i false) || p i) = true) (hV : V[i]? = some true) (hN : N[i]? = some x) : p i = true := by
  have hi : i < N.length := (List.getElem?_eq_some_iff.mp hN).1
  have := List.all_eq_true.mp h i (List.mem_range.mpr hi)
  rw [Bool.or_eq_true] at this
  rcases this with z | z
  · rw [List.getD_eq_getElem?_getD, hV] at z; cases z
  · exact z
def visL (N : List Str) (V : List Bool) (kd : List (Str × NameKind)) : Bool :=
  (List.range N.length).all fun i => !(V.getD i false) || match kd.lookup (N.getD i "") with
    | some .local => true | some .cell => true | _ => false
theorem visL_at {N : List Str} {V : List Bool} {kd : List (Str × NameKind)} {i : Nat} {x : Str} (h : visL N V kd = true) (hV : V[i]? = some true) (hN : N[i]? = some x) : kd.lookup x = some .local ∨ kd.lookup x = some .cell := by
  have q := all_at (p := fun i => match kd.lookup (N.getD i "") with | some .local => true | some .cell => true | _ => false) h hV hN
  have ex : N.getD i "" = x := by rw [List.getD_eq_getElem?_getD, hN]; rfl
  rw [ex] at q
  split at q
  · exact .inl (by assumption)
  · exact .inr (by assumption)
  · cases q
def mkF (G : GG) {st : Stmt} {N ps : List Str} (Sc : FnScope N ps (defScope st)) (V : List Bool) (kd : List (Str × NameKind)) (hv : visL N V kd = true) (hkd : (defScope st).names = kd) (k : Nat) (qual : Str) (f : Addr) (cdv : Value) (A : Around) (outer : List Env) (s : Shared) (H : Hp) (E : XK)
    (hr : Room k (A.deeper (envOfC qual (defScope st) s.heap.objs.size f cdv))) : Fm where
  G := G
  W := fun cls d _ H => E cls d H
  N := N
  V := V
  L := V
  kd := kd
  Xs := fun X => X = cxOf (L2N.CX G.P G.w) G.P G.w G.K G.mg G.base N qual (defScope st) f cdv A outer s H E
  k := k
  cm := true
  top := true
  fr := false
  ow := none
  hX := by rintro X rfl; exact ⟨rfl, rfl, rfl, rfl, rfl, rfl⟩
  nd := Sc.nd
  hkd := by rintro X rfl; exact hkd
  hki := by rintro X rfl; exact Sc.kind
  vis := by
    rintro X rfl i x hV hn
    have h := visL_at hv hV hn
    rw [← hkd] at h
    exact h.elim .inl fun h => .inr (.inl h)
  loc := by
    rintro X rfl i x hV hn
    have h := visL_at hv hV hn
    rw [← hkd] at h
    exact ⟨h, .inl rfl⟩
  hc := by rintro _ X rfl; rfl
  hr := by rintro _ X rfl; exact hr
  hu := by rintro X rfl; exact hr.units
  tk := by rintro X rfl; exact L2N.takes_of rfl rfl rfl rfl
  po := by rintro X rfl; exact passes_of (K := fun e s' => L2N.CX G.P G.w outer H s E e s') rfl
  ht := by rintro _ X rfl; exact ⟨rfl, rfl, rfl⟩
theorem starts {N : List Str} {vs : List V} {ds : List D} {G : GG} {S H : Hp} (e : Ex S H) (r : Reps G S vs ds) (hl : vs.length ≤ N.length) : Holds G H (L2.start N vs) S H (ds.map Sl.val ++ List.replicate (N.length - ds.length) Sl.unk) := by
  have l := r.length
  refine ⟨e, Same.refl _, by unfold L2.start; simp only [List.length_append, List.length_map, List.length_replicate]; omega, fun i d q => ?_, fun i d q => ?_, fun i j d e p q => ?_, fun i a q => ?_⟩
  · by_cases hi : i < ds.length
    · rw [List.getElem?_append_left (by simpa using hi), List.getElem?_map] at q
      cases z : ds[i]? with
      | none => rw [z] at q; cases q
      | some d' =>
        rw [z] at q
        cases q
        obtain ⟨v, hv, rv⟩ := r.get z
        refine ⟨v, ?_, rv⟩
        unfold L2.start
        rw [List.getElem?_append_left (by rw [List.length_map]; omega), List.getElem?_map, hv]
        rfl
    · rw [List.getElem?_append_right (by simpa using hi), List.getElem?_replicate] at q
      split at q <;> cases q
  all_goals
    by_cases hi : i < ds.length
    · rw [List.getElem?_append_left (by simpa using hi), List.getElem?_map] at q
      cases z : ds[i]? with
      | none => rw [z] at q; cases q
      | some d' => rw [z] at q; cases q
    · rw [List.getElem?_append_right (by simpa using hi), List.getElem?_replicate] at q
      split at q <;> cases q
theorem fn_ok {G : GG} {name qual : Str} {st : Stmt} {f : Addr} {fd : FuncData} {N ps : List Str} {k : Nat} {m : List D → M D} (V : List Bool) (kd : List (Str × NameKind)) (Fn : Fun G.K name qual st f fd) (Sc : FnScope N ps (defScope st))
    (hv : visL N V kd = true) (hkd : (defScope st).names = kd) (har : ∀ ds, m ds ≠ .stk → ds.length = ps.length)
    (hB : ∀ cdv A outer s H E hr ds, ds.length = ps.length → ∃ c : Ctl Unit Unit, m ds = c.toM ∧ BM (mkF G Sc V kd hv hkd k qual f cdv A outer s H E hr) (defBody st) (ds.map Sl.val ++ List.replicate (N.length - ds.length) Sl.unk) (c.out (fun _ => []) (fun _ => List.replicate N.length Sl.unk))) :
    FnOk G.P G.w G.K G.mg G.base (L2N.CX G.P G.w) (k + 1) f fd ps (spM G m) := by
  have hpl : ps.length ≤ N.length := by have := congrArg List.length Sc.pre; rw [List.length_take] at this; omega
  have len : ∀ vs H Q E, spM G m vs H Q E → ∃ ds : List D, vs.length = ds.length ∧ m ds ≠ .stk := fun vs H Q E h => by
    obtain ⟨S, ds, e, r, p⟩ := h
    exact ⟨ds, r.length, fun z => by rw [z] at p; exact p⟩
  refine L2N.okN Fn Sc (fun vs H Q E h => ?_) (fun cdv A outer s H vs Q E hr h => ?_)
  · obtain ⟨ds, h1, h2⟩ := len vs H Q E h
    exact h1.trans (har ds h2)
  · obtain ⟨S, ds, e, r, p⟩ := h
    have hl : ds.length = ps.length := har ds fun z => by rw [z] at p; exact p
    obtain ⟨c, hc, t, ht, d⟩ := hB cdv A outer s H E hr ds hl
    refine ⟨t, ht _ rfl, ?_⟩
    refine d S H _ (L2.start N vs) S H (Grow.refl e) (starts e r (by rw [r.length, hl]; exact hpl)) ?_
    rw [hc] at p
    cases c with
    | stk => exact p
    | exn x u => exact fun cls dd σ S' H' g _ rx => p cls dd S' H' g rx
    | ret d => exact fun v S' H' g rv _ => p S' H' g v rv
    | nx u => exact fun σ S' H' g _ => p S' H' g _ .non
def relN (kd : List (Str × NameKind)) (names : List (Str × NameKind)) : List (Str × NameKind) := names.map fun (n, k) => if (k == NameKind.free && kd.lookup n == some .cell) then (n, .cell) else (n, k)
def visC (N : List Str) (V : List Bool) (kd : List (Str × NameKind)) : Bool :=
  (List.range N.length).all fun i => !(V.getD i false) || match kd.lookup (N.getD i "") with
    | some .local => true | some .cell => true | some .free => true | _ => false
def locC (N : List Str) (L : List Bool) (kd names : List (Str × NameKind)) : Bool :=
  (List.range N.length).all fun i => !(L.getD i false) || decide (kd.lookup (N.getD i "") = some .local) || (decide (kd.lookup (N.getD i "") = some .cell) && decide (names.lookup (N.getD i "") = some .cell))
def dumS (names : List (Str × NameKind)) : Scope := { kind := .function, names := names, isGenerator := false, isCoroutine := false }
theorem blk_of {N : List Str} {sc scope : Scope} {own : List (Str × Nat)} (h : blkC N (dumS sc.names) scope own = true) : BlkOk N sc scope own := by
  obtain ⟨h1, h2, h3, h4, h5⟩ := blkOk_by h
  exact ⟨h1, h2, h3, h4, h5⟩
structure BlkF (F : Fm) (scope : Scope) (own : List (Str × Nat)) (V L : List Bool) (kd : List (Str × NameKind)) : Prop where
  ok : blkC F.N (dumS F.kd) scope own = true
  hkd : relN F.kd scope.names = kd
  hv : visC F.N V kd = true
  hl : locC F.N L kd scope.names = true
  hw0 : ((List.range L.length).all fun i => !(L.getD i false) || own.any fun p => p.2 == i) = true
theorem BlkF.hw {F : Fm} {scope : Scope} {own : List (Str × Nat)} {V L : List Bool} {kd : List (Str × NameKind)} (B : BlkF F scope own V L kd) (i : Nat) (h : L[i]? = some true) : i ∈ own.map (·.2) := by
  have hi : i < L.length := (List.getElem?_eq_some_iff.mp h).1
  have := List.all_eq_true.mp B.hw0 i (List.mem_range.mpr hi)
  rw [Bool.or_eq_true] at this
  rcases this with z | z
  · rw [List.getD_eq_getElem?_getD, h] at z; cases z
  · obtain ⟨p, hp, q⟩ := List.any_eq_true.mp z
    exact List.mem_map.mpr ⟨p, hp, by simpa using q⟩
theorem relS_names {sc scope : Scope} (h : sc.kind = .function) : (relS scope sc).names = relN sc.names scope.names := by
  unfold relS relN
  rw [h]
  refine List.map_congr_left fun y _ => ?_
  obtain ⟨n, k⟩ := y
  simp
def blkF (F : Fm) {scope : Scope} {own : List (Str × Nat)} {V L : List Bool} {kd : List (Str × NameKind)} (B : BlkF F scope own V L kd) : Fm where
  G := F.G
  W := fun _ _ _ _ => False
  N := F.N
  V := V
  L := L
  kd := kd
  Xs := fun Y => ∃ X s H C cl fp, F.Xs X ∧ Y = X.blk s H scope (compEnvC scope cl C X.env) fp
  k := F.k
  cm := F.cm
  top := false
  fr := F.fr
  ow := F.ow
  hX := by rintro Y ⟨X, s, H, C, cl, fp, h, rfl⟩; exact F.hX X h
  nd := F.nd
  hkd := by
    rintro Y ⟨X, s, H, C, cl, fp, h, rfl⟩
    show (relS scope X.env.scope).names = kd
    rw [relS_names (F.hki X h), F.hkd X h]
    exact B.hkd
  hki := by rintro Y ⟨X, s, H, C, cl, fp, h, rfl⟩; exact (show (relS scope X.env.scope).kind = .function from (blkOk_by B.ok).kind)
  vis := by
    rintro Y ⟨X, s, H, C, cl, fp, h, rfl⟩ i x hV hN
    have q := all_at (p := fun i => match kd.lookup (F.N.getD i "") with | some .local => true | some .cell => true | some .free => true | _ => false) B.hv hV hN
    have e : (relS scope X.env.scope).names = kd := by rw [relS_names (F.hki X h), F.hkd X h]; exact B.hkd
    show (relS scope X.env.scope).names.lookup x = _ ∨ (relS scope X.env.scope).names.lookup x = _ ∨ (relS scope X.env.scope).names.lookup x = _
    rw [e]
    have ex : F.N.getD i "" = x := by rw [List.getD_eq_getElem?_getD, hN]; rfl
    rw [ex] at q
    split at q
    · exact .inl (by assumption)
    · exact .inr (.inl (by assumption))
    · exact .inr (.inr (by assumption))
    · cases q
  loc := by
    rintro Y ⟨X, s, H, C, cl, fp, h, rfl⟩ i x hL hN
    have q := all_at (p := fun i => decide (kd.lookup (F.N.getD i "") = some .local) || (decide (kd.lookup (F.N.getD i "") = some .cell) && decide (scope.names.lookup (F.N.getD i "") = some .cell))) (V := L) (by
      have z := B.hl
      unfold locC at z
      simpa [Bool.or_assoc] using z) hL hN
    have e : (relS scope X.env.scope).names = kd := by rw [relS_names (F.hki X h), F.hkd X h]; exact B.hkd
    show ((relS scope X.env.scope).names.lookup x = _ ∨ (relS scope X.env.scope).names.lookup x = _) ∧ ((scope.names.lookup x == some .cell) = true ∨ (relS scope X.env.scope).names.lookup x = _)
    rw [e]
    have ex : F.N.getD i "" = x := by rw [List.getD_eq_getElem?_getD, hN]; rfl
    rw [ex, Bool.or_eq_true, Bool.and_eq_true] at q
    rcases q with q | ⟨q, r⟩
    · have q := of_decide_eq_true q
      exact ⟨.inl q, .inr q⟩
    · have q := of_decide_eq_true q
      have r := of_decide_eq_true r
      exact ⟨.inr q, .inl (by rw [r]; rfl)⟩
  hc := by rintro hc Y ⟨X, s, H, C, cl, fp, h, rfl⟩; exact F.hc hc X h
  hr := by rintro hc Y ⟨X, s, H, C, cl, fp, h, rfl⟩; exact F.hr hc X h
  hu := by rintro Y ⟨X, s, H, C, cl, fp, h, rfl⟩; exact F.hu X h
  tk := by rintro Y _; exact L2N.no_takes
  po := by rintro Y ⟨X, s, H, C, cl, fp, h, rfl⟩; exact PassesOwn.never
  ht := fun z => by cases z
def IfM (F : Fm) (ifs : List Expr) (Γ : Gam) (m : M Bool) : Prop := ∃ tt, (∀ X, F.Xs X → PTs X ifs tt) ∧ EvT F tt Γ m
theorem ifm_nil {F : Fm} {Γ : Gam} : IfM F [] Γ (.ok true) := ⟨tYes, fun X _ => pts_nil, fun H0 σ S H Q hh p => p.ok hh.ex⟩
theorem ifm_one {F : Fm} {Γ : Gam} {c : Expr} {m : M Bool} (h : TM F c Γ m) : IfM F [c] Γ m := by
  obtain ⟨t, p, q⟩ := h
  exact ⟨t, fun X hX => pts_one (p X hX), q⟩
def cP (F : Fm) (ifs : List Expr) : TT := fun σ H Q => ∃ t, (∀ X, F.Xs X → PTs X ifs t) ∧ t σ H Q
theorem cP_ok {F : Fm} {ifs : List Expr} (X : Cx) (hX : F.Xs X) : PTs X ifs (cP F ifs) := ⟨fun pins s σ H Q I ⟨_, ht, h⟩ => (ht X hX).run pins s σ H Q I h⟩
theorem IfM.c {F : Fm} {Γ : Gam} {ifs : List Expr} {m : M Bool} (h : IfM F ifs Γ m) : EvT F (cP F ifs) Γ m := let ⟨t, p, q⟩ := h; fun H0 σ S H Q hh po => ⟨t, p, q H0 σ S H Q hh po⟩
def cI (F : Fm) (tg iter : Expr) : TI := fun σ H R => ∃ t, (∀ X, F.Xs X → PI X tg iter t) ∧ t σ H R
theorem cI_ok {F : Fm} {tg iter : Expr} (X : Cx) (hX : F.Xs X) : PI X tg iter (cI F tg iter) := ⟨fun pins s σ H R I ⟨_, ht, h⟩ => (ht X hX).run pins s σ H R I h⟩
theorem IM.c {F : Fm} {Γ : Gam} {tg iter : Expr} {m : M (List D)} (h : IM F tg iter Γ m) : IvM F (cI F tg iter) Γ m := let ⟨t, p, q⟩ := h; fun H0 σ S H R hh po => ⟨t, p, q H0 σ S H R hh po⟩
def compL (f : D → M (List D)) : List D → M (List D)
  | [] => .ok []
  | d :: ds => (f d).bind fun xs => (compL f ds).bind fun r => .ok (xs ++ r)
def elM (c : M Bool) (e : M D) : M (List D) := ifM c (e.bind fun y => .ok [y]) (.ok [])
def inM (c : M Bool) (i : M (List D)) (f : D → M (List D)) : M (List D) := ifM c (i.bind fun ds => compL f ds) (.ok [])
def lcM (i : M (List D)) (f : D → M (List D)) : M D := i.bind fun ds => ((compL f ds).nox).bind mkLst
theorem compL_cons {f : D → M (List D)} {d : D} {ds r : List D} (h : compL f (d :: ds) = .ok r) : ∃ xs r', f d = .ok xs ∧ compL f ds = .ok r' ∧ r = xs ++ r' := by
  have h : (f d).bind (fun xs => (compL f ds).bind fun r => .ok (xs ++ r)) = .ok r := h
  cases q : f d with
  | stk => rw [q] at h; cases h
  | exn e => rw [q] at h; cases h
  | ok xs =>
    rw [q] at h
    have h : (compL f ds).bind (fun r => .ok (xs ++ r)) = .ok r := h
    cases q2 : compL f ds with
    | stk => rw [q2] at h; cases h
    | exn e => rw [q2] at h; cases h
    | ok r' => rw [q2] at h; cases h; exact ⟨xs, r', rfl, rfl, rfl⟩
structure Bs (G : GG) (S1 H1 : Hp) (L : Addr) (acc : List D) (S H : Hp) : Prop where
  grow : Grow S1 H1 S H
  at_ : ∃ vs, H L = some (.lst vs) ∧ Reps G S vs acc
  non : S L = none
section
variable {G : GG} {S1 H1 S H : Hp} {L : Addr} {acc : List D}
theorem Bs.start (e : Ex S1 H1) (h : H1 L = none) : Bs G S1 H1 L [] S1 (upd H1 L (.lst [])) := ⟨Grow.newOwn e h, ⟨[], upd_same, .nil⟩, sub_none e h⟩
theorem Bs.step {S' H' : Hp} (b : Bs G S1 H1 L acc S H) (g : Grow S H S' H') : Bs G S1 H1 L acc S' H' := by
  obtain ⟨vs, h, r⟩ := b.at_
  exact ⟨b.grow.trans g, ⟨vs, g.h _ _ h, r.mono g.s⟩, g.sep L ⟨_, h, fun _ z => by cases z⟩ b.non⟩
theorem Bs.add (b : Bs G S1 H1 L acc S H) (hL : H1 L = none) {y : V} {d : D} (r : Rep G S y d) {vs : List V} (h : H L = some (.lst vs)) : Bs G S1 H1 L (acc ++ [d]) S (upd H L (.lst (vs ++ [y]))) := by
  obtain ⟨vs', h', rs⟩ := b.at_
  rw [h] at h'
  cases h'
  exact ⟨b.grow.own b.non hL, ⟨_, upd_same, rs.append (.cons r .nil)⟩, b.non⟩
theorem Bs.len (b : Bs G S1 H1 L acc S H) : ∃ vs, H L = some (.lst vs) ∧ vs.length = acc.length := by
  obtain ⟨vs, h, r⟩ := b.at_
  exact ⟨vs, h, r.length⟩
theorem Bs.done (b : Bs G S1 H1 L acc S H) (hL : H1 L = none) : ∃ S', Grow S1 H1 S' H ∧ Rep G S' (.ref L) (.lst acc) := by
  obtain ⟨vs, h, r⟩ := b.at_
  refine ⟨upd S L (.lst vs), ⟨b.grow.s.trans (ex_upd b.non), b.grow.h, fun a u q => ?_, fun p h1 h2 => ?_⟩, .lst upd_same (r.mono (ex_upd b.non))⟩
  · by_cases z : a = L
    · subst z; rw [upd_same] at q; rw [h]; exact q
    · rw [upd_ne z] at q; exact b.grow.sub a u q
  · rw [upd_ne (fun z => by subst z; exact h1.ne hL)]
    exact b.grow.sep p h1 h2
end
theorem wipe_at {σ : L2.St} {i : Nat} {vs : List Nat} (h : i ∈ vs) : (wipe σ vs)[i]? = if i < σ.length then some none else none := by
  induction vs with
  | nil => cases h
  | cons v vs ih =>
    unfold wipe
    by_cases hv : v = i
    · subst hv
      by_cases hl : v < σ.length
      · rw [List.getElem?_set_self (by rw [wipe_length]; exact hl), if_pos hl]
      · rw [List.getElem?_eq_none (by rw [List.length_set, wipe_length]; omega), if_neg hl]
    · rw [List.getElem?_set_ne hv]
      exact ih ((List.mem_cons.mp h).resolve_left (fun z => hv z.symm))
theorem wipe_eq {σ σ' : L2.St} {vs : List Nat} {L : List Bool} (hl : σ'.length = σ.length) (h : ∀ i : Nat, L[i]? ≠ some true → σ'[i]? = σ[i]?) (hw : ∀ i : Nat, L[i]? = some true → i ∈ vs) : wipe σ' vs = wipe σ vs := by
  refine List.ext_getElem? fun i => ?_
  by_cases hi : i ∈ vs
  · rw [wipe_at hi, wipe_at hi, hl]
  · rw [wipe_out hi, wipe_out hi]
    exact h i fun z => hi (hw i z)
def wipeΓ (Γ : Gam) : List Nat → Gam
  | [] => Γ
  | v :: vs => (wipeΓ Γ vs).set v Sl.unk
theorem wipeΓ_len (Γ : Gam) : ∀ vs, (wipeΓ Γ vs).length = Γ.length
  | [] => rfl
  | v :: vs => by unfold wipeΓ; rw [List.length_set, wipeΓ_len Γ vs]
theorem wipeΓ_get {Γ : Gam} {i : Nat} {s : Sl} (hs : s ≠ .unk) : ∀ {vs : List Nat}, (wipeΓ Γ vs)[i]? = some s → Γ[i]? = some s ∧ i ∉ vs
  | [], h => ⟨h, by simp⟩
  | v :: vs, h => by
    unfold wipeΓ at h
    by_cases hi : v = i
    · subst hi
      by_cases hv : v < (wipeΓ Γ vs).length
      · rw [List.getElem?_set_self hv] at h; exact absurd (Option.some.inj h).symm hs
      · rw [List.getElem?_eq_none (by simpa using hv)] at h; cases h
    · rw [List.getElem?_set_ne hi] at h
      obtain ⟨h1, h2⟩ := wipeΓ_get hs h
      exact ⟨h1, by simp only [List.mem_cons, not_or]; exact ⟨fun e => hi e.symm, h2⟩⟩
theorem Holds.wipe {G : GG} {H0 : Hp} {σ : L2.St} {S H : Hp} {Γ : Gam} (h : Holds G H0 σ S H Γ) (vs : List Nat) : Holds G H0 (L2.wipe σ vs) S H (wipeΓ Γ vs) := by
  refine ⟨h.ex, h.e0, by rw [wipe_length, wipeΓ_len]; exact h.len, fun i d q => ?_, fun i d q => ?_, fun i j d e p a b c c' => ?_, fun i a q => ?_⟩
  · obtain ⟨q, n⟩ := wipeΓ_get (fun z => by cases z) q
    obtain ⟨v, a, b⟩ := h.val i d q
    exact ⟨v, by rw [wipe_out n]; exact a, b⟩
  · obtain ⟨q, n⟩ := wipeΓ_get (fun z => by cases z) q
    obtain ⟨v, a, b⟩ := h.own i d q
    exact ⟨v, by rw [wipe_out n]; exact a, b⟩
  · obtain ⟨a, n1⟩ := wipeΓ_get (fun z => by cases z) a
    obtain ⟨b, n2⟩ := wipeΓ_get (fun z => by cases z) b
    rw [wipe_out n1] at c
    rw [wipe_out n2] at c'
    exact h.dis i j d e p a b c c'
  · obtain ⟨q, n⟩ := wipeΓ_get (fun z => by cases z) q
    rw [wipe_out n]
    exact h.ref i a q
section
variable {F : Fm} {Γ : Gam} {scope : Scope} {own : List (Str × Nat)} {V L : List Bool} {kd : List (Str × NameKind)} {elt tg iter : Expr} {ifs : List Expr} {pos : Pos} {mi : M (List D)} {f : D → M (List D)} {tf : D → Gam → Option Gam}
def TurnM (F : Fm) (Γ : Gam) (tf : D → Gam → Option Gam) (ifs : List Expr) (elt : Expr) (f : D → M (List D)) : Prop :=
  ∀ d, (∃ Γ' mt me, tf d Γ = some Γ' ∧ IfM F ifs Γ' mt ∧ EM F elt Γ' me ∧ f d = elM mt me) ∨ f d = .stk
theorem ev_lcI (B : BlkF F scope own V L kd) {wi : TI} (hi : IvM F wi Γ mi) {g : TG} (hg : ∀ H0 σ S H v d Γ Γ' (Q : L2.St → Hp → Prop), Holds F.G H0 σ S H Γ → Rep F.G S v d → tf d Γ = some Γ' → (∀ σ', Holds F.G H0 σ' S H Γ' → σ'.length = σ.length → (∀ i : Nat, L[i]? ≠ some true → σ'[i]? = σ[i]?) → Q σ' H) → g v σ H Q)
    (ht : TurnM (blkF F B) (wipeΓ Γ (own.map (·.2))) tf ifs elt f) : EvM F (tLc wi g (cP (blkF F B) ifs) (cE (blkF F B) elt) (own.map (·.2))) Γ (lcM mi f) := by
  intro H0 σ S H Q hh po
  refine hi H0 σ S H _ hh ((Po.bind po).imp fun ds S1 H1 g1 q1 J hJ => ?_)
  intro A hA
  cases hc : compL f ds with
  | stk => rw [hc] at q1; exact False.elim q1
  | exn e => rw [hc] at q1; exact False.elim q1
  | ok R =>
    rw [hc] at q1
    obtain ⟨hR, q1⟩ := Po.gate (m := M.ok (D.lst R)) q1
    have h1 : Holds F.G H0 σ S1 H1 Γ := hh.grow g1
    refine ⟨fun i m H => m = ds.length - i ∧ i ≤ ds.length ∧ ∃ S acc r, Bs F.G S1 H1 A acc S H ∧ compL f (ds.drop i) = .ok r ∧ acc ++ r = R, ⟨ds.length, by simp, Nat.zero_le _, S1, [], R, Bs.start g1.sub hA, hc, rfl⟩, ?_⟩
    rintro i m H2 ⟨rfl, hi, S2, acc, r, b, hr, hR2⟩
    obtain ⟨stop, go⟩ := hJ S2 H2 b.grow.s b.grow.sub
    by_cases hlt : i < ds.length
    · obtain ⟨hgo, hy⟩ := go i ds[i] (List.getElem?_eq_getElem hlt)
      rw [List.drop_eq_getElem_cons hlt] at hr
      obtain ⟨xs, r', hx, hr', rfl⟩ := compL_cons hr
      refine .inr ⟨hgo, fun H => ∃ S, Bs F.G S1 H1 A (acc ++ xs) S H, fun H' ⟨S', b'⟩ => ⟨ds.length - (i + 1), by omega, rfl, hlt, S', acc ++ xs, r', b', hr', by rw [List.append_assoc]; exact hR2⟩, fun x H3 y => ?_⟩
      obtain ⟨S3, g3, r3⟩ := hy x H3 y
      rcases ht ds[i] with ⟨Γ', mt, me, e1, hif, hel, hf⟩ | z
      · have h3 := ((h1.grow b.grow).grow g3).wipe (own.map (·.2))
        refine hg H0 _ S3 H3 x ds[i] _ Γ' _ h3 r3 e1 fun σ4 h4 l4 k4 => ⟨wipe_eq l4 k4 B.hw |>.trans ?_, ?_⟩
        · refine List.ext_getElem? fun j => ?_
          by_cases hj : j ∈ own.map (·.2)
          · rw [wipe_at hj, wipe_at hj, wipe_length]
          · rw [wipe_out hj]
        rw [hf] at hx
        have b3 := b.step g3
        cases mt with
        | stk => cases hx
        | exn e => cases hx
        | ok c =>
          refine hif.c H0 σ4 S3 H3 _ h4 (fun S5 H5 g5 => ?_)
          cases c with
          | false =>
            cases hx
            refine iteF ?_
            rw [List.append_nil]
            exact ⟨S5, b3.step g5⟩
          | true =>
            cases me with
            | stk => cases hx
            | exn e => cases hx
            | ok y =>
              cases hx
              refine iteT (hel.c H0 σ4 S5 H5 _ (h4.grow g5) (fun S6 H6 g6 v rv => ?_))
              have b6 := (b3.step g5).step g6
              obtain ⟨vs, hvs, hlen⟩ := b6.len
              refine ⟨vs, hvs, ?_, S6, b6.add hA rv hvs⟩
              have : (acc ++ ([y] ++ r')).length = R.length := congrArg List.length hR2
              simp only [List.length_append, List.length_cons, List.length_nil] at this
              omega
      · rw [z] at hx; cases hx
    · have e : i = ds.length := by omega
      subst e
      rw [List.drop_length] at hr
      cases hr
      rw [List.append_nil] at hR2
      subst hR2
      obtain ⟨S', g', rr⟩ := b.done hA
      exact .inl ⟨stop, q1 S' H2 g' _ rr⟩
theorem ev_lc (B : BlkF F scope own V L kd) (hi : IM F tg iter Γ mi) {g : TG} (hg : ∀ H0 σ S H v d Γ Γ' (Q : L2.St → Hp → Prop), Holds F.G H0 σ S H Γ → Rep F.G S v d → tf d Γ = some Γ' → (∀ σ', Holds F.G H0 σ' S H Γ' → σ'.length = σ.length → (∀ i : Nat, L[i]? ≠ some true → σ'[i]? = σ[i]?) → Q σ' H) → g v σ H Q)
    (ht : TurnM (blkF F B) (wipeΓ Γ (own.map (·.2))) tf ifs elt f) : EvM F (tLc (cI F tg iter) g (cP (blkF F B) ifs) (cE (blkF F B) elt) (own.map (·.2))) Γ (lcM mi f) := ev_lcI B hi.c hg ht
theorem em_lc (B : BlkF F scope own V L kd) (hcm : F.cm = true) (hi : IM F tg iter Γ mi) (hg : TgM (blkF F B) tg tf) (ht : TurnM (blkF F B) (wipeΓ Γ (own.map (·.2))) tf ifs elt f)
    (hs : ∀ X, F.Xs X → ∀ x, foldedSetIterable iter X.env x = pure x := by intros; rfl) : EM F (.ListComp elt [⟨tg, iter, ifs, 0⟩] scope pos) Γ (lcM mi f) := by
  obtain ⟨g, pg, eg⟩ := hg
  refine ⟨_, fun X hX => ?_, ev_lc B hi (g := g) (fun H0 σ S H v d Γ Γ' Q => eg H0 σ S H v d Γ Γ' Q) ht⟩
  have hn := F.hN X hX
  exact pe_lc (F.hc hcm X hX) (by rw [hn]; exact F.nd) (cI_ok X hX) (by rw [hn]; exact blk_of (by rw [F.hkd X hX]; exact B.ok)) (fun s H C cl fp => pg _ ⟨X, s, H, C, cl, fp, hX, rfl⟩) (fun s H C cl fp => cP_ok _ ⟨X, s, H, C, cl, fp, hX, rfl⟩) (fun s H C cl fp => cE_ok _ ⟨X, s, H, C, cl, fp, hX, rfl⟩) (hs X hX)
theorem gm_lc (i : Nat) {x : Str} {py spos : Pos} (hx : F.N[i]? = some x) (B : BlkF F scope own V L kd) (hcm : F.cm = true) (hi : IM F tg iter Γ mi) (hg : TgM (blkF F B) tg tf) (ht : TurnM (blkF F B) (wipeΓ Γ (own.map (·.2))) tf ifs elt f)
    (hk : F.kd.lookup x = some .local) (hl : (py.line == pos.line) = true) (hl2 : (py.line == spos.line) = true) (ha : (scope.names.any fun (n, k) => n == x && (k == .local || k == .cell)) = false)
    (hs : ∀ X, F.Xs X → ∀ x, foldedSetIterable iter X.env x = pure x := by intros; rfl) : GM F (.Assign [.Name x py] (.ListComp elt [⟨tg, iter, ifs, 0⟩] scope pos) spos) i Γ (lcM mi f) := by
  obtain ⟨g, pg, eg⟩ := hg
  refine ⟨_, fun X hX => ?_, ev_lc B hi (g := g) (fun H0 σ S H v d Γ Γ' Q => eg H0 σ S H v d Γ Γ' Q) ht⟩
  have hn := F.hN X hX
  have hk' : X.env.scope.names.lookup x = some .local := by rw [F.hkd X hX]; exact hk
  exact ps_setLc (F.hc hcm X hX) (by rw [hn]; exact F.nd) (by rw [hn]; exact hx) hk' (sw_true (F.hki X hX) hk' hl ha) (cI_ok X hX) (by rw [hn]; exact blk_of (by rw [F.hkd X hX]; exact B.ok)) (fun s H C cl fp => pg _ ⟨X, s, H, C, cl, fp, hX, rfl⟩) (fun s H C cl fp => cP_ok _ ⟨X, s, H, C, cl, fp, hX, rfl⟩) (fun s H C cl fp => cE_ok _ ⟨X, s, H, C, cl, fp, hX, rfl⟩) (hs X hX)
end
end Mir
namespace Mir
open PySem PySem.Spec L2
open PyProof.Rows (envOfC)
open AutoSeq1 (wpAny_loadPart')
theorem meets_enumerate_newT (l : Addr) (items : Array Value) (n : Nat) (dct : Option Addr) (sl : Array (Option Value)) :
    Meets (Builtin.«enumerate.__new__» ⟨[.type "enumerate", .ref l], []⟩) (fun _ R s => s.heap.get? l = some { cls := .type "tuple", dict := dct, data := .seq items n, slots := sl } ∧
      R (.ok (.ret (.ref (s.heap.push { cls := .type "tuple_iterator", data := .fields #[.ref l, .int 0 0] }).objs.size)))
        { s with heap := (s.heap.push { cls := .type "tuple_iterator", data := .fields #[.ref l, .int 0 0] }).push { cls := .type "enumerate", data := .fields #[.none, .bool false, .ref s.heap.objs.size, rawInt 0, .none, .none] } }) :=
  .of_wp fun prog w A R s h => by
    obtain ⟨hp, g, d, tk, os⟩ := s; obtain ⟨hl, h⟩ := h
    have hsub := sub_enumerate
    have hL : Heap.IsTuple (Shared.heap ⟨hp, g, d, tk, os⟩) l items := ⟨_, hl, rfl, n, rfl⟩
    wp_walk using wpAny_loadPart' hl
    refine wpAny_stack_any fun st => wpAny_pure ?_
    split
    · rename_i c _ _ _ _ _
      cases (c == Value.type "enumerate")
      · wp_walk using wpAny_loadPart' hl, wpAny_pyIter_tuple hL
        exact ⟨_, rfl, h⟩
      · wp_walk using wpAny_loadPart' hl, wpAny_pyIter_tuple hL
        exact ⟨_, rfl, h⟩
    · wp_walk using wpAny_loadPart' hl, wpAny_pyIter_tuple hL
      exact ⟨_, rfl, h⟩
section
variable {prog : Program} {w : World} {A : Around} {E : Value → Shared → Prop} {s : Shared}
theorem call_enumerate_tuple {l : Addr} {items : Array Value} {Q : Value → Shared → Prop} (hL : s.heap.IsTuple l items)
    (h : ∀ h', IsEnum h' (s.heap.objs.size + 1) s.heap.objs.size 0 .none → h'.IsTupleIter s.heap.objs.size l 0 → h'.objs.size = s.heap.objs.size + 2 →
      (∀ b o, s.heap.get? b = some o → h'.get? b = some o) → Q (.ref (s.heap.objs.size + 1)) { s with heap := h' }) :
    wpAny (model prog w) A (call (.type "enumerate") [.ref l]) Q E s := by
  obtain ⟨⟨c, dct, dt, sl⟩, hl, hc, n, hd⟩ := hL
  replace hc : c = .type "tuple" := hc
  replace hd : dt = .seq items n := hd
  subst hc hd
  refine callType_new F.called_enumerate (by decide) (F.typeCall_enumerate_1 _) (F.newCall_enumerate_1 _) (fun obj => F.args_object_init_2 obj _) F.entry_enumerate_new
    (meets_enumerate_newT l items n dct sl) ⟨hl, ?_⟩
  have hz : (s.heap.push { cls := .type "tuple_iterator", data := .fields #[.ref l, .int 0 0] }).objs.size = s.heap.objs.size + 1 := Heap.size_push ..
  show _ ∧ _
  rw [hz]
  have he : IsEnum ((s.heap.push { cls := .type "tuple_iterator", data := .fields #[.ref l, .int 0 0] }).push
      { cls := .type "enumerate", data := .fields #[.none, .bool false, .ref s.heap.objs.size, rawInt 0, .none, .none] }) (s.heap.objs.size + 1) s.heap.objs.size 0 .none := by
    have := Heap.get?_push_size (s.heap.push { cls := .type "tuple_iterator", data := .fields #[.ref l, .int 0 0] })
      (o := { cls := .type "enumerate", data := .fields #[.none, .bool false, .ref s.heap.objs.size, rawInt 0, .none, .none] }) rfl
    rw [hz] at this; exact this
  refine ⟨⟨_, he, rfl⟩, h _ he ⟨_, Heap.get?_push_of_some _ (Heap.get?_push_size _ rfl), rfl, rfl⟩ (by rw [Heap.size_push, hz]) fun b o x => Heap.get?_push_of_some _ (Heap.get?_push_of_some _ x)⟩
end
def IteT (K : PySem.W.Frag) (a : Addr) : It :=
  ⟨fun i H => ∃ (xs : List V) (x : V), SqT K H a xs ∧ xs[i]? = some x, fun i H v H' => ∃ T x, v = .ref T ∧ H T = none ∧ H' = upd H T (.tup [.int (i : Nat), x]) ∧ ∀ xs, SqT K H a xs → xs[i]? = some x, fun i H => ∃ xs : List V, SqT K H a xs ∧ xs.length ≤ i⟩
theorem turn_enumT {P : Program} {w : World} {K : PySem.W.Frag} {elts : List Expr} {kk : Nat} {tpos : Pos} (a e it : Addr) (hai : a ≠ it) (hae : a ≠ e) :
    Turn P w K (.Tuple elts kk tpos) (IteT K a) [e, it] e (fun i h => (∃ old, IsEnum h e it ((i : Nat) : Int) old) ∧ h.IsTupleIter it a i ∧ e ≠ it) where
  mem := by simp
  obj := fun i h st b hb => by
    obtain ⟨⟨old, he⟩, ⟨o, ho, hc, hd⟩, _⟩ := st
    have e' : b = e ∨ b = it := by simpa using hb
    rcases e' with z | z
    · rw [z]; exact ⟨_, he, fun v q => nomatch q⟩
    · rw [z]; exact ⟨o, ho, fun v q => by rw [hd] at q; cases q⟩
  keep := fun i h h' st k => let ⟨⟨old, he⟩, hi, hne⟩ := st; ⟨⟨old, k e (by simp) _ he⟩, hi.at fun o q => k it (by simp) o q, hne⟩
  item := by
    intro X hP hw hK hc i pins s σ H E I hf st hg
    subst hP hw hK
    obtain ⟨⟨old, he⟩, hit, hne⟩ := st
    obtain ⟨xs, x, hq, hx⟩ := hg
    obtain ⟨its, rv, p, hz⟩ := I.tuple hq
    obtain ⟨u, hu, ru⟩ := rv.get hx
    have hel : e < s.heap.objs.size := Heap.lt_size he
    have hil : it < s.heap.objs.size := by obtain ⟨_, q, _⟩ := hit; exact Heap.lt_size q
    have ht : s.heap.IsTuple a its.toArray := p
    have hlt : i < its.toArray.size := by
      have := (List.getElem?_eq_some_iff.mp hu).1
      simpa using this
    refine wpAny_pyNext_enum_itemD (Draws.tuple (show X.A.in1.handled = none from I.ok.hd hc) it a hai its.toArray) he ⟨hit, ht⟩ hlt hne (by simp [hne, Ne.symm hae]) fun x' h' tk hP ho hit' hT hsz hk => ?_
    have ex : x' = u := by
      have h1 : its.toArray[i]? = some x' := hP
      rw [List.getElem?_toArray, hu] at h1
      exact (Option.some.inj h1).symm
    subst ex
    refine ⟨_, rfl, wpAny_letOwnedTupleGo_enum (s := { s with heap := h', toks := tk + 1 }) ho fun h'' he' sb => ?_⟩
    have hT2 : h''.get? s.heap.objs.size = some { cls := .type "tuple", data := .seq #[.int i tk, x'] } := (sb.2 _ (Nat.ne_of_gt hel)).trans hT
    have new : ObjOk X.prog X.w (upd H s.heap.objs.size (.tup [.int (i : Nat), x])) h'' s.heap.objs.size (.tup [.int (i : Nat), x]) :=
      ⟨by show 2 ≤ sizeLine; decide, [.int i tk, x'], .cons ⟨_, rfl⟩ (.cons ru .nil), ⟨_, hT2, rfl, _, rfl⟩⟩
    have I1 : Inv X pins σ (upd H s.heap.objs.size (.tup [.int (i : Nat), x])) { s with heap := h'', toks := tk + 1 } :=
      I.turnedNew (ch := [e, it]) (fun b ob hb q => (sb.2 b (fun z => hb (by simp [z]))).trans (hk b ob (fun z => hb (by simp [z])) (fun z => hb (by simp [z])) q)) hf (Nat.le_refl _) new
    refine ⟨.ref s.heap.objs.size, _, I1, rfl, ⟨_, x, rfl, I.hok.fresh (Nat.le_refl _), rfl, fun ys hy => by rw [I.tuple_inj hy hq]; exact hx⟩, ⟨⟨x', ?_⟩, hit'.1.at fun o q => (sb.2 it (Ne.symm hne)).trans q, hne⟩, fun b hb => ?_⟩
    · have e1 : ((i + 1 : Nat) : Int) = (i : Int) + 1 := by omega
      rw [e1]; exact he'
    · have hb' : b < s.heap.objs.size := by
        have e' : b = e ∨ b = it := by simpa using hb
        rcases e' with z | z
        · rw [z]; exact hel
        · rw [z]; exact hil
      rw [upd_ne (Nat.ne_of_lt hb')]
      exact (hf b hb).1
  done := by
    intro X hP hw hK hc i pins s σ H E I hf st hg
    subst hP hw hK
    obtain ⟨⟨old, he⟩, hit, hne⟩ := st
    obtain ⟨xs, hq, hx⟩ := hg
    obtain ⟨its, rv, p, hz⟩ := I.tuple hq
    obtain ⟨f0, f1, f2, f3, f4, f5⟩ := hf it (by simp)
    have hl := rv.length
    have D := Draws.tuple (prog := X.prog) (w := X.w) (show X.A.in1.handled = none from I.ok.hd hc) it a hai its.toArray
    have hT : s.TypeIs (.ref e) "enumerate" := ⟨_, he, rfl⟩
    unfold pyNext
    refine wpAny_bind (wpAny_attempt (wpAny_callSpecial?_slot (name := Str.ofString "__next__") hT F.slot_enumerate_next
      (wpAny_call_entry F.slot_enumerate_next hT F.entry_enumerate_next ?_ (F.args_enumerate_next_1 _))))
    show wpAny _ _ (field (.ref e) 2 >>= _) _ _ _
    refine wpAny_bind (wpAny_field he rfl (x := .ref it) rfl ?_)
    refine wpAny_bind (wpAny_nextOf_tuple_end (show X.A.in1.handled = none from I.ok.hd hc) hit p (by simp; omega) fun h' x he' hx' => ?_)
    obtain ⟨o, ho, hc'⟩ := hx'
    refine wpAny_bind (wpAny_isInstance (T := "StopIteration") (b := true) ⟨o, ho, hc'⟩ isSubtype_stop ?_)
    exact wpAny_pure ⟨rfl, I.turned (t' := s.toks) (fun b o hb q => he' b o hb q) f0 f1 f3 f4 f5⟩
  self := fun A i s Q E st h => let ⟨⟨_, he⟩, _⟩ := st; wpAny_pyIter_enum he h
def iEnumT (K : PySem.W.Frag) (ta : TA) : TI := fun σ H R => ta σ H fun vs H1 => ∃ a xs, vs = [.ref a] ∧ SqT K H1 a xs ∧ R (IteT K a) H1
theorem pi_enumT {X : Cx} {e : Expr} {ta : TA} {p pos tpos : Pos} {elts : List Expr} {kk : Nat} (hg : Gl X "enumerate") (hm : X.mg "enumerate" = none) (ha : PA X [e] ta) (hs : starEach [e] X.env = [(false, eval e X.env)] := by rfl) :
    PI X (.Tuple elts kk tpos) (.Call (.Name "enumerate" p) [e] [] pos) (iEnumT X.K ta) := by
  refine ⟨fun pins s σ H R I h => ?_⟩
  refine PyProof.Rows.Call_ (ld_blt I hg hm PyProof.Rows.boot_enumerate (PyProof.Rows.callWith_type1 (thn (ha.run pos pins s σ H _ I h) fun us s1 ⟨vs, H1, I1, r1, q1⟩ => ?_) hs rfl))
  obtain ⟨a, xs, ex, hq, q⟩ := q1
  subst ex
  cases r1 with
  | cons r rr =>
    cases rr
    cases r
    obtain ⟨its, rv, p', hz⟩ := I1.tuple hq
    have hal : a < s1.heap.objs.size := p'.lt
    refine call_enumerate_tuple p' fun h' he hit hsz hk => wpAny_pyIter_enum he ?_
    have I2 : Inv X pins σ H1 { s1 with heap := h' } := I1.kept (t' := s1.toks) hk
    refine ⟨s1.heap.objs.size + 1, [s1.heap.objs.size + 1, s1.heap.objs.size], _, _, H1, rfl, I2, turn_enumT a (s1.heap.objs.size + 1) s1.heap.objs.size (Nat.ne_of_lt hal) (Nat.ne_of_lt (Nat.lt_succ_of_lt hal)), ⟨⟨.none, he⟩, hit, Nat.succ_ne_self _⟩, fun b hb => ?_, q⟩
    have e' : b = s1.heap.objs.size + 1 ∨ b = s1.heap.objs.size := by simpa using hb
    have hle : s1.heap.objs.size ≤ b := by
      rcases e' with z | z
      · rw [z]; exact Nat.le_add_right _ _
      · rw [z]; exact Nat.le_refl _
    exact I1.fpOk hle (I1.hok.fresh hle)
def numD (k : Nat) : List D → List D
  | [] => []
  | d :: ds => .tup [.int (k : Int), d] :: numD (k + 1) ds
theorem numD_len : ∀ (ds : List D) (k : Nat), (numD k ds).length = ds.length
  | [], _ => rfl
  | d :: ds, k => congrArg (· + 1) (numD_len ds (k + 1))
theorem numD_get : ∀ (ds : List D) (k i : Nat) {x : D}, (numD k ds)[i]? = some x → ∃ d, ds[i]? = some d ∧ x = .tup [.int ((k + i : Nat) : Int), d]
  | [], _, _, _, h => by cases h
  | d :: ds, k, 0, x, h => ⟨d, rfl, (Option.some.inj h).symm⟩
  | d :: ds, k, i + 1, x, h => by
    obtain ⟨d', h1, h2⟩ := numD_get ds (k + 1) i (x := x) h
    exact ⟨d', h1, by rw [h2, show k + 1 + i = k + (i + 1) by omega]⟩
def pyEnum : List D → M (List D)
  | [.lst xs] => .ok (numD 0 xs)
  | [.tup xs] => .ok (numD 0 xs)
  | _ => .stk
section
variable {F : Fm} {Γ : Gam} {a : Expr} {pos : Pos} {G : GG} {S : Hp}
theorem it_enum {p : Addr} {vs : List V} {ds : List D} (h : SqL G.K S p vs) (r : Reps G S vs ds) : ItSem G (Ite G.K p) S (numD 0 ds) := fun S' H' e1 e2 => by
  have h' := ex_l e2 (ex_l e1 h)
  refine ⟨⟨vs, h', by rw [r.length, numD_len]; exact Nat.le_refl _⟩, fun i x hx => ?_⟩
  obtain ⟨d, hd, rfl⟩ := numD_get ds 0 i hx
  obtain ⟨v, hv, rv⟩ := r.get hd
  refine ⟨⟨vs, v, h', hv⟩, fun x H'' y => ?_⟩
  obtain ⟨T, z, rfl, hT, rfl, y⟩ := y
  have : v = z := Option.some.inj (hv.symm.trans (y vs h'))
  subst this
  have g := Grow.new (o := HO.tup [.int ((0 + i : Nat) : Int), v]) e2 hT
  refine ⟨_, by rw [show (0 + i : Nat) = i by omega] at g; exact g, ?_⟩
  refine .tup (by rw [upd_same, show (0 + i : Nat) = i by omega]) (.cons (.int _) (.cons ((rv.mono e1).mono (ex_upd (sub_none e2 hT))) .nil))
theorem it_enumT {p : Addr} {vs : List V} {ds : List D} (h : SqT G.K S p vs) (r : Reps G S vs ds) : ItSem G (IteT G.K p) S (numD 0 ds) := fun S' H' e1 e2 => by
  have h' := ex_t e2 (ex_t e1 h)
  refine ⟨⟨vs, h', by rw [r.length, numD_len]; exact Nat.le_refl _⟩, fun i x hx => ?_⟩
  obtain ⟨d, hd, rfl⟩ := numD_get ds 0 i hx
  obtain ⟨v, hv, rv⟩ := r.get hd
  refine ⟨⟨vs, v, h', hv⟩, fun x H'' y => ?_⟩
  obtain ⟨T, z, rfl, hT, rfl, y⟩ := y
  have : v = z := Option.some.inj (hv.symm.trans (y vs h'))
  subst this
  have g := Grow.new (o := HO.tup [.int ((0 + i : Nat) : Int), v]) e2 hT
  refine ⟨_, by rw [show (0 + i : Nat) = i by omega] at g; exact g, ?_⟩
  refine .tup (by rw [upd_same, show (0 + i : Nat) = i by omega]) (.cons (.int _) (.cons ((rv.mono e1).mono (ex_upd (sub_none e2 hT))) .nil))
theorem im_enum {p tpos : Pos} {elts : List Expr} {kk : Nat} {m : M D} (hg : F.kd.lookup ("enumerate" : Str) = some NameKind.globalImplicit) (hm : F.G.mg "enumerate" = none) (ha : EM F a Γ m)
    (hst : ∀ X, F.Xs X → starEach [a] X.env = (false, eval a X.env) :: starEach [] X.env := by intros; rfl) (hs : ∀ X, F.Xs X → starEach [a] X.env = [(false, eval a X.env)] := by intros; rfl) :
    IM F (.Tuple elts kk tpos) (.Call (.Name "enumerate" p) [a] [] pos) Γ (b1 pyEnum (mlist [m])) := by
  obtain ⟨t, q, f⟩ := am_cons ha am_nil hst
  obtain ⟨t1, q1, f1⟩ := ha
  refine ⟨fun σ H R => iEnum F.G.K (tCons t1 tNil) σ H R ∨ iEnumT F.G.K (tCons t1 tNil) σ H R, fun X hX => ?_, fun H0 σ S H R hh po => ?_⟩
  · have hg' := F.gl X hX hg
    have hm' : X.mg "enumerate" = none := by rw [(F.hX X hX).2.2.2.1]; exact hm
    have pa : PA X [a] (tCons t1 tNil) := pa_cons (q1 X hX) pa_nil (hst X hX)
    have h := PI_or (pi_enum (elts := elts) (kk := kk) (tpos := tpos) (p := p) (pos := pos) hg' hm' pa (hs X hX)) (pi_enumT hg' hm' pa (hs X hX))
    rw [F.hK X hX] at h
    exact h
  · cases m with
    | stk => exact False.elim po
    | exn e => exact .inl (f1 H0 σ S H _ hh po)
    | ok d =>
      have po : Po F.G (WE F.W σ) S H (fun ds S' H' => ∀ J, ItSem F.G J S' ds → R J H') (pyEnum [d]) := po
      cases d with
      | lst xs =>
        refine .inl (f1 H0 σ S H _ hh fun S1 H1 g v r => ?_)
        cases r with
        | lst h r => exact ⟨_, _, rfl, SqL.of (g.sub _ _ h), po S1 H1 g _ (it_enum (SqL.of h) r)⟩
      | tup xs =>
        refine .inr (f1 H0 σ S H _ hh fun S1 H1 g v r => ?_)
        cases r with
        | tup h r => exact ⟨_, _, rfl, SqT.of (g.sub _ _ h), po S1 H1 g _ (it_enumT (SqT.of h) r)⟩
      | _ => exact False.elim po
end
end Mir
namespace Mir
open PySem PySem.Spec L2
open PyProof.Rows (envOfC)
section
variable {F : Fm} {Γ : Gam} {X S : Type} {fx : X → Gam} {fs : S → Gam} {x0 : X} {pos : Pos} {rest : List Stmt}
theorem ok_lt (X : Cx) (_ : F.Xs X) : OpR X (compareOp .Lt) rLtA := op_ltA
theorem ok_le (X : Cx) (_ : F.Xs X) : OpR X (compareOp .LtE) (rI0 fun i j => .bl (decide (i ≤ j))) := op_le
theorem ok_gt (X : Cx) (_ : F.Xs X) : OpR X (compareOp .Gt) (rI0 fun i j => .bl (decide (j < i))) := op_gt
theorem ok_ge (X : Cx) (_ : F.Xs X) : OpR X (compareOp .GtE) (rI0 fun i j => .bl (decide (j ≤ i))) := op_ge
theorem ok_eq (X : Cx) (hX : F.Xs X) : OpR X (compareOp .Eq) (rEqA F.G.K) := by
  have h := op_eq.or (op_eqD (F.hu X hX))
  rw [F.hK X hX] at h
  exact h
theorem ok_ne (X : Cx) (hX : F.Xs X) : OpR X (compareOp .NotEq) (rNeA F.G.K) := by
  have h := op_ne.or (op_neD (F.hu X hX))
  rw [F.hK X hX] at h
  exact h
theorem ok_in (X : Cx) (hX : F.Xs X) : OpR X (compareOp .In) (rIn F.G.K false) := by
  have h := op_in_seq (X := X)
  rw [F.hK X hX] at h
  exact h
theorem ok_ni (X : Cx) (hX : F.Xs X) : OpR X (compareOp .NotIn) (rIn F.G.K true) := by
  have h := op_notIn_seq (X := X)
  rw [F.hK X hX] at h
  exact h
theorem ok_is (X : Cx) (_ : F.Xs X) : OpR X (compareOp .Is) (fun x y H Q => y = .non ∧ Q (.bl (decide (x = .non))) H) := op_isN
theorem ok_isnot (X : Cx) (_ : F.Xs X) : OpR X (compareOp .IsNot) (fun x y H Q => y = .non ∧ Q (.bl (!decide (x = .non))) H) := op_notN
def un2 {α : Type} (z : α) (d : D) (k : D → D → α) : α := match unD d with
  | some [a, b] => k a b
  | _ => z
theorem un2_at {α : Type} {z : α} {d : D} {k : D → D → α} {a b : D} (h : unD d = some [a, b]) : un2 z d k = k a b := by
  unfold un2
  rw [h]
theorem un2_cs (d : D) : (∃ a b, unD d = some [a, b]) ∨ (∀ {α : Type} (z : α) (k : D → D → α), un2 z d k = z) := by
  by_cases h : ∃ a b, unD d = some [a, b]
  · exact .inl h
  · refine .inr fun z k => ?_
    unfold un2
    split
    · rename_i q
      exact absurd ⟨_, _, q⟩ h
    · rfl
def un3 {α : Type} (z : α) (d : D) (k : D → D → D → α) : α := match unD d with
  | some [a, b, c] => k a b c
  | _ => z
theorem un3_at {α : Type} {z : α} {d : D} {k : D → D → D → α} {a b c : D} (h : unD d = some [a, b, c]) : un3 z d k = k a b c := by
  unfold un3
  rw [h]
theorem un3_cs (d : D) : (∃ a b c, unD d = some [a, b, c]) ∨ (∀ {α : Type} (z : α) (k : D → D → D → α), un3 z d k = z) := by
  by_cases h : ∃ a b c, unD d = some [a, b, c]
  · exact .inl h
  · refine .inr fun z k => ?_
    unfold un3
    split
    · rename_i q
      exact absurd ⟨_, _, _, q⟩ h
    · rfl
def un4 {α : Type} (z : α) (d : D) (k : D → D → D → D → α) : α := match unD d with
  | some [a, b, c, e] => k a b c e
  | _ => z
theorem un4_at {α : Type} {z : α} {d : D} {k : D → D → D → D → α} {a b c e : D} (h : unD d = some [a, b, c, e]) : un4 z d k = k a b c e := by
  unfold un4
  rw [h]
theorem un4_cs (d : D) : (∃ a b c e, unD d = some [a, b, c, e]) ∨ (∀ {α : Type} (z : α) (k : D → D → D → D → α), un4 z d k = z) := by
  by_cases h : ∃ a b c e, unD d = some [a, b, c, e]
  · exact .inl h
  · refine .inr fun z k => ?_
    unfold un4
    split
    · rename_i q
      exact absurd ⟨_, _, _, _, q⟩ h
    · rfl
structure ExcK (G : GG) (x : Str) (c : Nat) : Prop where
  ex : ∃ C, G.xc c = .ref C ∧ PySem.W.excIn G.K C [.type "ValueError", .type "Exception", .type "BaseException", .type "object"] "ValueError.__new__" = true ∧ G.mg x = some (.ref C) ∧ PySem.W.keepIn G.K (.ref C) = true ∧
    PySem.W.subIn G.K (.ref C) (.type "BaseException") = some true ∧ PySem.W.typeIn G.K (.ref C) = some (.type "type")
theorem bm_raise {x m : Str} {c : Nat} {j : Nat} {p p2 p3 : Pos} (K : ExcK F.G x c) (hcm : F.cm = true) (hg : F.kd.lookup x = some .globalImplicit) (w : Weak Γ (fx x0)) (hdb : (x == ("__debug__" : Str)) = false := by decide) :
    BM F [.Raise (some (.Call (.Name x p) [.Constant (.str m) j p2] [] p3)) none pos] Γ ((Ctl.exn ⟨c, []⟩ x0 : Ctl X S).out fx fs) := by
  obtain ⟨C, hc, q, gC, kC, b, t⟩ := K.ex
  refine ⟨fun _ σ H => F.W (.ref C) none σ H, fun Y hY => pss_one ?_, fun S0 H0 Dn σ S H g hh po => ?_⟩
  · obtain ⟨h1, h2, h3, h4, h5, _⟩ := F.hX Y hY
    rw [← h3] at q kC b t
    rw [← h4] at gC
    exact L2N.ps_raise (F.hc hcm Y hY) (F.tk Y hY) (L2N.pmk_own PySem.F.excBase_ValueError q gC kC (raises_own b t) (F.gl Y hY hg) hdb)
  · exact po (.ref C) none σ S H g ⟨Γ, hh, w⟩ ⟨hc.symm, .inl ⟨rfl, rfl⟩⟩
end
end Mir
namespace Mir
open PySem PySem.Spec L2
open PyProof.Rows (envOfC)
structure Bi (G : GG) : Prop where
  f_len : G.mg "len" = none
  f_int : G.mg "int" = none
  f_range : G.mg "range" = none
  f_list : G.mg "list" = none
  f_isinstance : G.mg "isinstance" = none
  f_enumerate : G.mg "enumerate" = none
  f_sorted : G.mg "sorted" = none
  f_str : G.mg "str" = none
  f_tuple : G.mg "tuple" = none
  f_max : G.mg "max" = none
  f_min : G.mg "min" = none
  f_sum : G.mg "sum" = none
  f_all : G.mg "all" = none
  f_zip : G.mg "zip" = none
  f_iter : G.mg "iter" = none
  f_bool : G.mg "bool" = none
  f_ValueError : G.mg "ValueError" = none
def ar1 (f : D → Ctl Unit Unit) : List D → M D
  | [a] => (f a).toM
  | _ => .stk
def ar2 (f : D → D → Ctl Unit Unit) : List D → M D
  | [a, b] => (f a b).toM
  | _ => .stk
def ar3 (f : D → D → D → Ctl Unit Unit) : List D → M D
  | [a, b, c] => (f a b c).toM
  | _ => .stk
def ar4 (f : D → D → D → D → Ctl Unit Unit) : List D → M D
  | [a, b, c, d] => (f a b c d).toM
  | _ => .stk
def ar5 (f : D → D → D → D → D → Ctl Unit Unit) : List D → M D
  | [a, b, c, d, e] => (f a b c d e).toM
  | _ => .stk
def ar6 (f : D → D → D → D → D → D → Ctl Unit Unit) : List D → M D
  | [a, b, c, d, e, g] => (f a b c d e g).toM
  | _ => .stk
theorem ar1_len {f : D → Ctl Unit Unit} {x : Str} : ∀ ds, ar1 f ds ≠ .stk → ds.length = [x].length
  | [_], _ => rfl
  | [], h => absurd rfl h
  | _ :: _ :: _, h => absurd rfl h
theorem ar2_len {f : D → D → Ctl Unit Unit} {x y : Str} : ∀ ds, ar2 f ds ≠ .stk → ds.length = [x, y].length
  | [_, _], _ => rfl
  | [], h => absurd rfl h
  | [_], h => absurd rfl h
  | _ :: _ :: _ :: _, h => absurd rfl h
theorem ar3_len {f : D → D → D → Ctl Unit Unit} {x y z : Str} : ∀ ds, ar3 f ds ≠ .stk → ds.length = [x, y, z].length
  | [_, _, _], _ => rfl
  | [], h => absurd rfl h
  | [_], h => absurd rfl h
  | [_, _], h => absurd rfl h
  | _ :: _ :: _ :: _ :: _, h => absurd rfl h
theorem ar4_len {f : D → D → D → D → Ctl Unit Unit} {x y z u : Str} : ∀ ds, ar4 f ds ≠ .stk → ds.length = [x, y, z, u].length
  | [_, _, _, _], _ => rfl
  | [], h => absurd rfl h
  | [_], h => absurd rfl h
  | [_, _], h => absurd rfl h
  | [_, _, _], h => absurd rfl h
  | _ :: _ :: _ :: _ :: _ :: _, h => absurd rfl h
theorem ar5_len {f : D → D → D → D → D → Ctl Unit Unit} {x y z u w : Str} : ∀ ds, ar5 f ds ≠ .stk → ds.length = [x, y, z, u, w].length
  | [_, _, _, _, _], _ => rfl
  | [], h => absurd rfl h
  | [_], h => absurd rfl h
  | [_, _], h => absurd rfl h
  | [_, _, _], h => absurd rfl h
  | [_, _, _, _], h => absurd rfl h
  | _ :: _ :: _ :: _ :: _ :: _ :: _, h => absurd rfl h
theorem ar6_len {f : D → D → D → D → D → D → Ctl Unit Unit} {x y z u w v : Str} : ∀ ds, ar6 f ds ≠ .stk → ds.length = [x, y, z, u, w, v].length
  | [_, _, _, _, _, _], _ => rfl
  | [], h => absurd rfl h
  | [_], h => absurd rfl h
  | [_, _], h => absurd rfl h
  | [_, _, _], h => absurd rfl h
  | [_, _, _, _], h => absurd rfl h
  | [_, _, _, _, _], h => absurd rfl h
  | _ :: _ :: _ :: _ :: _ :: _ :: _ :: _, h => absurd rfl h
theorem len1 {ds : List D} {x : Str} (h : ds.length = [x].length) : ∃ a, ds = [a] := match ds, h with | [a], _ => ⟨a, rfl⟩
theorem len2 {ds : List D} {x y : Str} (h : ds.length = [x, y].length) : ∃ a b, ds = [a, b] := match ds, h with | [a, b], _ => ⟨a, b, rfl⟩
theorem len3 {ds : List D} {x y z : Str} (h : ds.length = [x, y, z].length) : ∃ a b c, ds = [a, b, c] := match ds, h with | [a, b, c], _ => ⟨a, b, c, rfl⟩
theorem len4 {ds : List D} {x y z u : Str} (h : ds.length = [x, y, z, u].length) : ∃ a b c d, ds = [a, b, c, d] := match ds, h with | [a, b, c, d], _ => ⟨a, b, c, d, rfl⟩
theorem len5 {ds : List D} {x y z u w : Str} (h : ds.length = [x, y, z, u, w].length) : ∃ a b c d e, ds = [a, b, c, d, e] := match ds, h with | [a, b, c, d, e], _ => ⟨a, b, c, d, e, rfl⟩
theorem len6 {ds : List D} {x y z u w v : Str} (h : ds.length = [x, y, z, u, w, v].length) : ∃ a b c d e f, ds = [a, b, c, d, e, f] := match ds, h with | [a, b, c, d, e, f], _ => ⟨a, b, c, d, e, f, rfl⟩
section
variable {F : Fm} {Γ : Gam} {X S : Type} {fx : X → Gam} {fs : S → Gam} {x0 : X} {pos : Pos} {rest : List Stmt}
def unL3 {α : Type} (z : α) (ds : List D) (k : D → D → D → α) : α := match ds with
  | [a, b, c] => k a b c
  | _ => z
theorem mlist3 {m n l : M D} {ds : List D} (h : mlist [m, n, l] = .ok ds) : ∃ a b c, ds = [a, b, c] := by
  cases m with
  | stk => cases h
  | exn e => cases h
  | ok a => cases n with
    | stk => cases h
    | exn e => cases h
    | ok b => cases l with
      | stk => cases h
      | exn e => cases h
      | ok c => cases h; exact ⟨a, b, c, rfl⟩
theorem reps3 {G : GG} {S : Hp} {vs : List V} {d e g : D} (r : Reps G S vs [d, e, g]) : ∃ v w u, vs = [v, w, u] ∧ Rep G S v d ∧ Rep G S w e ∧ Rep G S u g := by
  cases r with
  | cons h r =>
    obtain ⟨w, u, rfl, a, b⟩ := reps2 r
    exact ⟨_, w, u, rfl, h, a, b⟩
theorem bm_par3 (i j l : Nat) {x y z : Str} {a b c : Expr} {ma mb mc : M D} {px py pz pt : Pos} {kt k2 pt2} {k : D → D → D → Ctl X S} (ha : AM F [a, b, c] Γ (mlist [ma, mb, mc])) (w : Weak Γ (fx x0)) (hr : ∀ u v t, BM F rest (((Γ.set i (Sl.val u)).set j (Sl.val v)).set l (Sl.val t)) ((k u v t).out fx fs))
    (hcm : F.cm = true) (hi : F.N[i]? = some x) (hj : F.N[j]? = some y) (hl : F.N[l]? = some z) (hij : i ≠ j) (hil : i ≠ l) (hjl : j ≠ l) (hx : F.kd.lookup x = some .local) (hy : F.kd.lookup y = some .local) (hz : F.kd.lookup z = some .local)
    (hw : ∀ Y, F.Xs Y → swappedStores [.Tuple [.Name x px, .Name y py, .Name z pz] kt pt] (.Tuple [a, b, c] k2 pt2) Y.env = pure (some [x, y, z]))
    (hs : ∀ Y, F.Xs Y → swapsWithSole [.Tuple [.Name x px, .Name y py, .Name z pz] kt pt] (.Tuple [a, b, c] k2 pt2) pos.line Y.env = pure false := by intros; rfl) :
    BM F (.Assign [.Tuple [.Name x px, .Name y py, .Name z pz] kt pt] (.Tuple [a, b, c] k2 pt2) pos :: rest) Γ (((mlist [ma, mb, mc]).bindC x0 fun ds => unL3 .stk ds k).out fx fs) := by
  obtain ⟨t, p, f⟩ := ha
  refine bm_cons (t := tPar3 i j l t) (fun Y hY => ?_) fun S0 H0 Dn σ S H g hh po => ?_
  · have hn := F.hN Y hY
    have hk := F.hkd Y hY
    exact ps_par3 (F.hc hcm Y hY) (by rw [hn]; exact F.nd) (by rw [hn]; exact hi) (by rw [hn]; exact hj) (by rw [hn]; exact hl) hij hil hjl (by rw [hk]; exact hx) (by rw [hk]; exact hy) (by rw [hk]; exact hz) (p Y hY) (hw Y hY) (hs Y hY)
  · have pb := opo_bind g hh w po
    cases hm : mlist [ma, mb, mc] with
    | stk => rw [hm] at pb; exact False.elim pb
    | exn e => refine f H0 σ S H _ hh ?_; rw [hm] at pb ⊢; exact pb
    | ok ds =>
      obtain ⟨u, v, t', rfl⟩ := mlist3 hm
      rw [hm] at pb
      refine f H0 σ S H _ hh ?_
      rw [hm]
      refine fun S1 H1 gg vs r => ?_
      obtain ⟨g1, h1, p1⟩ := pb S1 H1 gg
      obtain ⟨a', b', c', rfl, ra, rb, rc⟩ := reps3 r
      exact ⟨a', b', c', rfl, (hr u v t').c S0 H0 Dn _ S1 H1 g1 (((h1.set ra).set rb).set rc) p1⟩
def tChain3 (r r' r'' : R2) (ta tb tc td : TE) : TE := fun σ H Q => ta σ H fun x H1 => tb σ H1 fun y H2 => r x y H2 fun z H3 => ∃ k, z = .bl k ∧
  (if k = true then tc σ H3 fun w H4 => r' y w H4 fun z2 H5 => ∃ k2, z2 = .bl k2 ∧ (if k2 = true then td σ H5 fun v H6 => r'' w v H6 Q else Q (.bl false) H5) else Q (.bl false) H3)
theorem pe_chain3 {X : Cx} {a b c d : Expr} {op op' op'' : CmpOp} {r r' r'' : R2} {ta tb tc td : TE} (ho : OpR X (compareOp op) r) (ho' : OpR X (compareOp op') r') (ho'' : OpR X (compareOp op'') r'') (ha : PE X a ta) (hb : PE X b tb) (hc : PE X c tc) (hd : PE X d td)
    (hm : lastMarks [op, op', op''] [b, c, d] = false := by with_unfolding_all rfl) : PE X (.Compare a [op, op', op''] [b, c, d] pos) (tChain3 r r' r'' ta tb tc td) := by
  refine ⟨fun pins s σ H Q I h => ?_⟩
  refine PyProof.Rows.Compare_chain (thn (ha.run pins s σ H _ I h) fun v s1 ⟨x, H1, I1, r1, q1⟩ => PyProof.Rows.chain_link (thn (hb.run pins s1 σ H1 _ I1 q1) fun u s2 ⟨y, H2, I2, r2, q2⟩ =>
    thn (ho pins s2 σ H2 x y v u _ I2 r1 r2 q2) fun d s3 ⟨z, H3, I3, r3, k, e, q3⟩ => ?_)) hm
  subst e
  cases r3
  refine wpAny_truthy_bool ?_
  cases k with
  | false => exact PyProof.Rows.ite_ff ⟨.bl false, H3, I3, rfl, q3⟩
  | true =>
    refine PyProof.Rows.ite_tt (PyProof.Rows.chain_link (thn (hc.run pins s3 σ H3 _ I3 q3) fun w' s4 ⟨z', H4, I4, r4, q4⟩ => thn (ho' pins s4 σ H4 y z' u w' _ I4 r2 r4 q4) fun d' s5 ⟨z2, H5, I5, r5, k2, e2, q5⟩ => ?_))
    subst e2
    cases r5
    refine wpAny_truthy_bool ?_
    cases k2 with
    | false => exact PyProof.Rows.ite_ff ⟨.bl false, H5, I5, rfl, q5⟩
    | true => exact PyProof.Rows.ite_tt (PyProof.Rows.chain_last (thn (hd.run pins s5 σ H5 _ I5 q5) fun w6 s6 ⟨z6, H6, I6, r6, q6⟩ => ho'' pins s6 σ H6 z' z6 w' w6 Q I6 r4 r6 q6))
def chM3 (f g h : D → D → M D) (a b c d : M D) : M D := a.bind fun x => b.bind fun y => (f x y).bind fun z => (isB z).bind fun k => if k = true then c.bind fun w => (g y w).bind fun z2 => (isB z2).bind fun k2 => if k2 = true then d.bind fun v => h w v else .ok (.bl false) else .ok (.bl false)
theorem ev_chain3 {ma mb mc md : M D} {r r' r'' : R2} {f g h : D → D → M D} {ta tb tc td : TE} (hf : RM F r f) (hg : RM F r' g) (hk : RM F r'' h) (ea : EvM F ta Γ ma) (eb : EvM F tb Γ mb) (ec : EvM F tc Γ mc) (ed : EvM F td Γ md) : EvM F (tChain3 r r' r'' ta tb tc td) Γ (chM3 f g h ma mb mc md) := by
  intro H0 σ S H Q hh p
  refine ea H0 σ S H _ hh (Po.bind p |>.imp fun x S1 H1 g1 q1 vx rx => ?_)
  refine eb H0 σ S1 H1 _ (hh.grow g1) (Po.bind q1 |>.imp fun y S2 H2 g2 q2 vy ry => ?_)
  refine hf x y vx vy σ S2 H2 _ g2.sub (rx.mono g2.s) ry (Po.bind q2 |>.imp fun z S3 H3 g3 q3 vz rz => ?_)
  obtain ⟨k, rfl, q3⟩ := isB_of g3.sub rz q3
  refine ⟨k, rfl, ?_⟩
  cases k with
  | false => exact iteF (Po.ok (a := D.bl false) g3.sub q3 _ (.bl _))
  | true =>
    have q3 : Po F.G (WE F.W σ) S3 H3 (KE F Q) (mc.bind fun w => (g y w).bind fun z2 => (isB z2).bind fun k2 => if k2 = true then md.bind fun v => h w v else .ok (.bl false)) := q3
    refine iteT (ec H0 σ S3 H3 _ (hh.grow (g1.trans (g2.trans g3))) (Po.bind q3 |>.imp fun w S4 H4 g4 q4 vw rw' => ?_))
    refine hg y w vy vw σ S4 H4 _ g4.sub ((ry.mono g3.s).mono g4.s) rw' (Po.bind q4 |>.imp fun z S5 H5 g5 q5 vz rz => ?_)
    obtain ⟨k2, rfl, q5⟩ := isB_of g5.sub rz q5
    refine ⟨k2, rfl, ?_⟩
    cases k2 with
    | false => exact iteF (Po.ok (a := D.bl false) g5.sub q5 _ (.bl _))
    | true =>
      have q5 : Po F.G (WE F.W σ) S5 H5 (KE F Q) (md.bind fun v => h w v) := q5
      exact iteT (ed H0 σ S5 H5 _ (hh.grow (g1.trans (g2.trans (g3.trans (g4.trans g5))))) (Po.bind q5 |>.imp fun v S6 H6 g6 q6 vv rv => hk w v vw vv σ S6 H6 Q g6.sub ((rw'.mono g5.s).mono g6.s) rv q6))
theorem em_chain3 {a b c d : Expr} {ma mb mc md : M D} {op op' op'' : CmpOp} {r r' r'' : R2} {f g h : D → D → M D} (ho : ∀ X, F.Xs X → OpR X (compareOp op) r) (hf : RM F r f) (ho' : ∀ X, F.Xs X → OpR X (compareOp op') r') (hg : RM F r' g) (ho'' : ∀ X, F.Xs X → OpR X (compareOp op'') r'') (hk : RM F r'' h)
    (ha : EM F a Γ ma) (hb : EM F b Γ mb) (hc : EM F c Γ mc) (hd : EM F d Γ md) (hm : lastMarks [op, op', op''] [b, c, d] = false := by with_unfolding_all rfl) : EM F (.Compare a [op, op', op''] [b, c, d] pos) Γ (chM3 f g h ma mb mc md) := by
  obtain ⟨ta, pa, ea⟩ := ha
  obtain ⟨tb, pb, eb⟩ := hb
  obtain ⟨tc, pc, ec⟩ := hc
  obtain ⟨td, pd, ed⟩ := hd
  exact ⟨_, fun X hX => pe_chain3 (ho X hX) (ho' X hX) (ho'' X hX) (pa X hX) (pb X hX) (pc X hX) (pd X hX) hm, ev_chain3 hf hg hk ea eb ec ed⟩
end
end Mir
namespace L2
open PySem PySem.Spec PyProof.Rows
def tTurn (ifs : List Expr) (t0 i0 : Expr) (bd nxt : Sem Fin) (it : Value) (env : Env) : Sem Fin := do
  standAt i0.pos
  match ← pyNext it with
  | none => pure (.done .next)
  | some v =>
    letOwnedTupleGo t0 it v
    assign t0 env v
    let mut ok := true
    for c in ifs do
      if ok then ok ← isTrue c env (eval c env)
    if ok then bd else nxt
def bdOut (E i1 : Expr) (k : Nat) (it acc : Value) (env : Env) : Sem Fin := do
  let x ← eval i1 env
  standAt i1.pos
  let x ← foldedSetIterable i1 env x
  let _ ← runOwn (.compStart E (k + 1) (← holding [x] (pyIter x)) acc env) env
  again (.compLoop E k it acc env)
def bdIn (E elt : Expr) (k : Nat) (it acc : Value) (env : Env) : Sem Fin := do
  (do let _ ← call (.builtin "list.append") [acc, ← eval elt env])
  again (.compLoop E k it acc env)
section
variable {elt t0 i0 t1 i1 t2 i2 : Expr} {ifs0 ifs1 ifs2 : List Expr} {scope : Scope} {pos : Pos}
theorem turn2_0 (it acc : Value) (env : Env) : compTurn (.ListComp elt [⟨t0, i0, ifs0, 0⟩, ⟨t1, i1, ifs1, 0⟩] scope pos) 0 it acc env =
    tTurn ifs0 t0 i0 (bdOut (.ListComp elt [⟨t0, i0, ifs0, 0⟩, ⟨t1, i1, ifs1, 0⟩] scope pos) i1 0 it acc env) (again (.compLoop (.ListComp elt [⟨t0, i0, ifs0, 0⟩, ⟨t1, i1, ifs1, 0⟩] scope pos) 0 it acc env)) it env := by rfl
theorem turn2_1 (it acc : Value) (env : Env) : compTurn (.ListComp elt [⟨t0, i0, ifs0, 0⟩, ⟨t1, i1, ifs1, 0⟩] scope pos) 1 it acc env =
    tTurn ifs1 t1 i1 (bdIn (.ListComp elt [⟨t0, i0, ifs0, 0⟩, ⟨t1, i1, ifs1, 0⟩] scope pos) elt 1 it acc env) (again (.compLoop (.ListComp elt [⟨t0, i0, ifs0, 0⟩, ⟨t1, i1, ifs1, 0⟩] scope pos) 1 it acc env)) it env := by rfl
theorem turn3_0 (it acc : Value) (env : Env) : compTurn (.ListComp elt [⟨t0, i0, ifs0, 0⟩, ⟨t1, i1, ifs1, 0⟩, ⟨t2, i2, ifs2, 0⟩] scope pos) 0 it acc env =
    tTurn ifs0 t0 i0 (bdOut (.ListComp elt [⟨t0, i0, ifs0, 0⟩, ⟨t1, i1, ifs1, 0⟩, ⟨t2, i2, ifs2, 0⟩] scope pos) i1 0 it acc env) (again (.compLoop (.ListComp elt [⟨t0, i0, ifs0, 0⟩, ⟨t1, i1, ifs1, 0⟩, ⟨t2, i2, ifs2, 0⟩] scope pos) 0 it acc env)) it env := by rfl
theorem turn3_1 (it acc : Value) (env : Env) : compTurn (.ListComp elt [⟨t0, i0, ifs0, 0⟩, ⟨t1, i1, ifs1, 0⟩, ⟨t2, i2, ifs2, 0⟩] scope pos) 1 it acc env =
    tTurn ifs1 t1 i1 (bdOut (.ListComp elt [⟨t0, i0, ifs0, 0⟩, ⟨t1, i1, ifs1, 0⟩, ⟨t2, i2, ifs2, 0⟩] scope pos) i2 1 it acc env) (again (.compLoop (.ListComp elt [⟨t0, i0, ifs0, 0⟩, ⟨t1, i1, ifs1, 0⟩, ⟨t2, i2, ifs2, 0⟩] scope pos) 1 it acc env)) it env := by rfl
theorem turn3_2 (it acc : Value) (env : Env) : compTurn (.ListComp elt [⟨t0, i0, ifs0, 0⟩, ⟨t1, i1, ifs1, 0⟩, ⟨t2, i2, ifs2, 0⟩] scope pos) 2 it acc env =
    tTurn ifs2 t2 i2 (bdIn (.ListComp elt [⟨t0, i0, ifs0, 0⟩, ⟨t1, i1, ifs1, 0⟩, ⟨t2, i2, ifs2, 0⟩] scope pos) elt 2 it acc env) (again (.compLoop (.ListComp elt [⟨t0, i0, ifs0, 0⟩, ⟨t1, i1, ifs1, 0⟩, ⟨t2, i2, ifs2, 0⟩] scope pos) 2 it acc env)) it env := by rfl
end
section
variable {prog : Program} {w : World} {A : Around} {R : Result → Shared → Prop} {s : Shared} {elt t0 i0 : Expr} {gs : List Comprehension} {ifs0 : List Expr} {scope : Scope} {pos : Pos} {it acc : Value} {env : Env} {k : Nat}
theorem compLoopG {bd : Sem Fin} (hT : compTurn (.ListComp elt gs scope pos) k it acc env = tTurn ifs0 t0 i0 bd (again (.compLoop (.ListComp elt gs scope pos) k it acc env)) it env) (I : Nat → Shared → Prop)
    (turn : ∀ n s, I n s → wpAny (model prog w) A (pyNext it) (fun r s₁ => match r with
      | none => R (.ok .next) s₁
      | some v => wpAny (model prog w) A (letOwnedTupleGo t0 it v) (fun _ s₁' => wpAny (model prog w) A (assign t0 env v) (fun _ s₂ =>
          wpAny (model prog w) A (forIn ifs0 true fun c r => if r = true then do let ok ← isTrue c env (eval c env); pure (ForInStep.yield ok) else pure (ForInStep.yield r)) (fun ok s₃ =>
            if ok = true then wpAny (model prog w) A bd (fun f s' => f = .again (.compLoop (.ListComp elt gs scope pos) k it acc env) ∧ ∃ m, m < n ∧ I m s') (notedBy (model prog w) A env fun e s' => R (.error e) s') s₃
            else ∃ m, m < n ∧ I m s₃) (notedBy (model prog w) A env fun e s' => R (.error e) s') s₂) (notedBy (model prog w) A env fun e s' => R (.error e) s') s₁') (notedBy (model prog w) A env fun e s' => R (.error e) s') s₁) (notedBy (model prog w) A env fun e s' => R (.error e) s') s)
    (n : Nat) (h : I n s) : codeAny (model prog w) A (.compLoop (.ListComp elt gs scope pos) k it acc env) R s := by
  refine codeAny_loop rfl I (fun n s hI => ?_) n h
  show wpAny _ A ((compTurn (.ListComp elt gs scope pos) k it acc env).onRaise (fun x => do noteFrame x env; theTreesLotGoes x)) _ _ s
  refine wpAny_noted ?_
  rw [hT]
  unfold tTurn
  refine wpAny_bind (wpAny_standAt (wpAny_bind (wpAny_mono (turn n s hI) (fun r s₁ h₁ => ?_) fun _ _ h' => h')))
  cases r with
  | none => exact wpAny_pure h₁
  | some v =>
    refine wpAny_bind (wpAny_mono h₁ (fun _ s₁' h₁' => ?_) fun _ _ h' => h')
    refine wpAny_bind (wpAny_mono h₁' (fun _ s₂ h₂ => wpAny_bind (wpAny_mono h₂ (fun ok s₃ h₃ => ?_) fun _ _ h' => h')) fun _ _ h' => h')
    cases ok with
    | false => exact wpAny_pure ⟨rfl, h₃⟩
    | true =>
      refine wpAny_mono h₃ (fun f s₄ h₄ => ?_) fun _ _ h' => h'
      obtain ⟨rfl, h₄⟩ := h₄
      exact ⟨rfl, h₄⟩
theorem compStartG {E : Expr} {g : Comprehension} (hE : E = .ListComp elt gs scope pos) (hk : gs[k]? = some g) (ha : (g.is_async != 0) = false) (h0 : codeAny (model prog w) A (.compLoop E k it acc env) R s)
    (h : wpAny (model prog w) A (pyIter it) (fun it' s' => codeAny (model prog w) A (.compLoop E k it' acc env) R s')
      (notedBy (model prog w) A env fun x s' => R (.error x) s') s) :
    codeAny (model prog w) A (.compStart E k it acc env) R s := by
  subst hE
  refine codeAny_of_tree ?_
  show wpAny _ _ ((compStart (.ListComp elt gs scope pos) k it acc env).onRaise (fun x => do noteFrame x env; standAt theWindowsPlace)) _ _ s
  refine wpAny_notedAt ?_
  unfold compStart
  rw [show clausesOf (.ListComp elt gs scope pos) = gs from rfl, hk]
  simp only [Option.elim, ha]
  show wpAny _ _ (ask >>= _) _ _ s
  refine wpAny_bind (wpAny_askSetting (wpAny_ite ?_))
  split
  · first
      | exact wpAny_bind (wpAny_pure (wpAny_pure (And.intro rfl h0)))
      | exact wpAny_pure (And.intro rfl h0)
  · first
      | exact wpAny_bind (wpAny_rule (wpAny_bind (wpAny_standAt (wpAny_bind (wpAny_mono h (fun it' s' h' => wpAny_pure (And.intro rfl h')) fun _ _ x => x)))))
      | (refine wpAny_bind (wpAny_rule ?_); show wpAny _ _ (standAt g.iter.pos >>= _) _ _ s; exact wpAny_bind (wpAny_standAt (wpAny_bind (wpAny_mono h (fun it' s' h' => wpAny_pure (And.intro rfl h')) fun _ _ x => x))))
end
abbrev TB := St → Hp → (Hp → Prop) → Prop
def PBd (Y : Cx) (bd : Sem Fin) (c : Code) (vs : List Nat) (tb : TB) : Prop :=
  ∀ pins s σ H (Nx : Hp → Prop), Inv Y pins σ H s → tb σ H Nx → wpAny (model Y.prog Y.w) Y.A bd (fun f s' => f = .again c ∧ ∃ H', Inv Y pins (wipe σ vs) H' s' ∧ Nx H') (fun _ _ => False) s
def tEl (te : TE) (D : Addr) : TB := fun σ H Nx => te σ H fun y H7 => ∃ acc, H7 D = some (.lst acc) ∧ acc.length < sizeLine ∧ Nx (upd H7 D (.lst (acc ++ [y])))
def tIn (wi : TI) (g : TG) (tt : TT) (tb : TB) (vs : List Nat) : TB := fun σ H Nx => wi σ H fun J H1 => ∃ W : Nat → Nat → Hp → Prop, (∃ m, W 0 m H1) ∧ ∀ j k H, W j k H →
  (J.stop j H ∧ Nx H) ∨ (J.go j H ∧ ∃ Nx1 : Hp → Prop, (∀ H', Nx1 H' → ∃ k', k' < k ∧ W (j + 1) k' H') ∧ ∀ x H', J.yld j H x H' → g x (wipe σ vs) H' fun σ3 H5 => wipe σ3 vs = wipe σ vs ∧ tt σ3 H5 fun b H6 =>
    if b = true then tb σ3 H6 Nx1 else Nx1 H6)
def tLcN (wi : TI) (g : TG) (tt : TT) (tb : Addr → TB) (vs : List Nat) : TE := fun σ H Q => wi σ H fun J H1 => ∀ D, H1 D = none → ∃ W : Nat → Nat → Hp → Prop, (∃ m, W 0 m (upd H1 D (.lst []))) ∧ ∀ i m H, W i m H →
  (J.stop i H ∧ Q (.ref D) H) ∨ (J.go i H ∧ ∃ Nx : Hp → Prop, (∀ H', Nx H' → ∃ m', m' < m ∧ W (i + 1) m' H') ∧ ∀ x H', J.yld i H x H' → g x (wipe σ vs) H' fun σ2 H2 => wipe σ2 vs = wipe σ vs ∧ tt σ2 H2 fun b H3 =>
    if b = true then tb D σ2 H3 Nx else Nx H3)
section
variable {X : Cx}
theorem pbd_in {E elt : Expr} {k : Nat} {it : Value} {D : Addr} {s : Shared} {H : Hp} {scope : Scope} {ce : Env} {fp : List Addr} {te : TE} (he : PE (X.blk s H scope ce fp) elt te) : PBd (X.blk s H scope ce fp) (bdIn E elt k it (.ref D) ce) (.compLoop E k it (.ref D) ce) [] (tEl te D) := by
  intro pins s1 σ H1 Nx I h
  unfold bdIn
  refine wpAny_bind (wpAny_bind (thnF (he.run _ s1 σ H1 _ I h) fun z s17 ⟨yv, H17, I17, r17, acc, hD17, hz17, nx⟩ => ?_))
  refine wpAny_bind (app_ok (X := X.blk s H scope ce fp) I17 hD17 hz17 r17 fun s18 I18 => ?_)
  exact wpAny_pure (wpAny_pure ⟨rfl, _, I18, nx⟩)
theorem pbd_out {E elt : Expr} {gs : List Comprehension} {pos : Pos} {k : Nat} {it : Value} {D : Addr} {s3 : Shared} {H3 : Hp} {scope sc : Scope} {ce : Env} {fp0 : List Addr} {tg1 i1 : Expr} {ifs1 : List Expr} {bd1 : Value → Sem Fin} {vs1 vs2 : List Nat} {wi1 : TI} {g1 : TG} {tt1 : TT} {tb1 : TB}
    (hE : E = .ListComp elt gs sc pos) (hk : gs[k + 1]? = some ⟨tg1, i1, ifs1, 0⟩) (hc : X.calm = true)
    (hT : ∀ it, compTurn E (k + 1) it (.ref D) ce = tTurn ifs1 tg1 i1 (bd1 it) (again (.compLoop E (k + 1) it (.ref D) ce)) it ce)
    (hv : ∀ i ∈ vs2, i ∈ vs1) (hs1 : ∀ x, foldedSetIterable i1 ce x = pure x) (pi1 : PI (X.blk s3 H3 scope ce fp0) tg1 i1 wi1) (pg1 : PG (X.blk s3 H3 scope ce fp0) tg1 g1) (pt1 : PTs (X.blk s3 H3 scope ce fp0) ifs1 tt1)
    (hb : ∀ it, PBd (X.blk s3 H3 scope ce fp0) (bd1 it) (.compLoop E (k + 1) it (.ref D) ce) vs2 tb1) :
    PBd (X.blk s3 H3 scope ce fp0) (bdOut E i1 k it (.ref D) ce) (.compLoop E k it (.ref D) ce) vs1 (tIn wi1 g1 tt1 tb1 vs1) := by
  subst hE
  intro pins s9 σ8 H9 Nx I9 q9
  unfold bdOut
  refine wpAny_bind (thnF (pi1.run _ s9 σ8 H9 _ I9 q9) fun xv s10 hx => ?_)
  refine wpAny_bind (wpAny_standAt (wpAny_bind (wpAny_of_eq (hs1 xv) (wpAny_bind (wpAny_holding (thnF hx fun itv s11 h11 => ?_))))))
  obtain ⟨it1, fp1, tn1, J1, H11, e1, I11, T1, st11, f11, W1, ⟨m1, w1⟩, turn1⟩ := h11
  subst e1
  refine wpAny_bind (wpAny_runOwn ?_)
  rw [Around.mark_none]
  have stat1 : ∀ {H' : Hp}, (∀ b ∈ fp1, H' b = none) → ∀ b ∈ fp1, FpOk (X.blk s3 H3 scope ce fp0) pins H' b := fun hn b hb => ⟨hn b hb, (f11 b hb).2⟩
  have loop1 : codeAny (model X.prog X.w) X.A (.compLoop (.ListComp elt gs sc pos) (k + 1) (.ref it1) (.ref D) ce)
      (fun r s' => match r with
        | .ok _ => ∃ H', Inv (X.blk s3 H3 scope ce fp0) pins (wipe σ8 vs1) H' s' ∧ Nx H'
        | .error _ => False) s11 := by
    refine compLoopG (hT (.ref it1)) (fun n s' => ∃ j H', Inv (X.blk s3 H3 scope ce fp0) pins (wipe σ8 vs1) H' s' ∧ tn1 j s'.heap ∧ (∀ b ∈ fp1, H' b = none) ∧ W1 j n H') ?_ m1 ⟨0, H11, I11.weak (wipe_length _ _) (fun j v e => (wipe_some e).1), st11, fun b hb => (f11 b hb).1, w1⟩
    rintro n s12 ⟨j, H12, I12, st12, n12, w12⟩
    rcases turn1 j n H12 w12 with ⟨stop1, nx1⟩ | ⟨go1, Nx1, hNx1, step1⟩
    · refine thnF (T1.done (X.blk s3 H3 scope ce fp0) rfl rfl rfl hc j _ s12 (wipe σ8 vs1) H12 (fun _ _ => False) I12 (stat1 n12) st12 stop1) fun r s13 ⟨hr, I13⟩ => ?_
      subst hr
      exact ⟨_, I13, nx1⟩
    · refine thnF (T1.item (X.blk s3 H3 scope ce fp0) rfl rfl rfl hc j _ s12 (wipe σ8 vs1) H12 (fun _ _ => False) I12 (stat1 n12) st12 go1) fun r s13 ⟨u1, hr, h13⟩ => ?_
      subst hr
      refine thnF h13 fun _ s14 ⟨x1, H14, I14, r14, y14, st14, n14⟩ => ?_
      have I14' := I14.pinned (stat1 n14) (T1.obj _ _ st14)
      refine thnF (pg1.run _ s14 (wipe σ8 vs1) H14 x1 u1 _ I14' r14 (step1 x1 H14 y14)) fun _ s15 ⟨σ15, H15, I15, hw15, q15⟩ => ?_
      refine thnF (pt1.run _ s15 σ15 H15 _ I15 q15) fun b1 s16 ⟨H16, I16, q16⟩ => ?_
      have fin1 : ∀ {σ9 : St} {s' : Shared} {H' : Hp}, Inv (X.blk s3 H3 scope ce fp0) (pins ++ pinsAt fp1 s14.heap) σ9 H' s' → (wipe σ8 vs1).length = σ9.length → (∀ (j : Nat) v, (wipe σ8 vs1)[j]? = some (some v) → σ9[j]? = some (some v)) → Nx1 H' → ∃ m, m < n ∧ ∃ j H', Inv (X.blk s3 H3 scope ce fp0) pins (wipe σ8 vs1) H' s' ∧ tn1 j s'.heap ∧ (∀ b ∈ fp1, H' b = none) ∧ W1 j m H' := fun {σ9 s' H'} I' hl hk nx => by
        obtain ⟨m', hm, w'⟩ := hNx1 H' nx
        have pin' : ∀ b ∈ fp1, ∀ o, s14.heap.get? b = some o → s'.heap.get? b = some o ∧ H' b = none := fun b hb o e =>
          let z := I'.pin (b, o) (List.mem_append_right _ (List.mem_append_right _ (mem_pinsAt hb e)))
          ⟨z.1, z.2.1⟩
        refine ⟨m', hm, j + 1, H', I'.unpinned.weak hl hk, T1.keep _ _ _ st14 fun b hb o e => (pin' b hb o e).1, fun b hb => ?_, w'⟩
        obtain ⟨o, e, _⟩ := T1.obj _ _ st14 b hb
        exact (pin' b hb o e).2
      have hl15 : (wipe σ8 vs1).length = σ15.length := by rw [← hw15, wipe_length]
      have hk15 : ∀ (j : Nat) v, (wipe σ8 vs1)[j]? = some (some v) → σ15[j]? = some (some v) := fun j v e => by rw [← hw15] at e; exact (wipe_some e).1
      cases b1 with
      | false =>
        simp only [Bool.false_eq_true, if_false] at q16 ⊢
        exact fin1 I16 hl15 hk15 q16
      | true =>
        simp only [if_true] at q16 ⊢
        refine thnF (hb (.ref it1) _ s16 σ15 H16 _ I16 q16) fun f s17 ⟨hf, H17, I17, nx⟩ => ?_
        refine ⟨hf, fin1 I17 (hl15.trans (wipe_length σ15 vs2).symm) (fun j v e => ?_) nx⟩
        have e0 := e
        rw [← hw15] at e0
        obtain ⟨e1, e2⟩ := wipe_some e0
        rw [wipe_out fun z => e2 (hv j z)]
        exact e1
  refine codeAny_mono (compStartG rfl hk rfl loop1 (T1.self X.A 0 _ _ _ st11 loop1)) fun r s' hr => ?_
  cases r with
  | ok f =>
    first
      | exact wpAny_pure ⟨rfl, hr⟩
      | exact wpAny_bind (wpAny_pure (wpAny_pure ⟨rfl, hr⟩))
  | error e => exact hr.elim
end
section
variable {X : Cx}
abbrev BdFam (X : Cx) (scope : Scope) (bd : Addr → Value → Env → Sem Fin) (E : Expr) (vs : List Nat) (tb : Addr → TB) : Prop :=
  ∀ (s : Shared) (H : Hp) (C : Addr) (cl : List (Str × Addr)) (fp : List Addr) (D : Addr) (it : Value), PBd (X.blk s H scope (compEnvC scope cl C X.env) fp) (bd D it (compEnvC scope cl C X.env)) (.compLoop E 0 it (.ref D) (compEnvC scope cl C X.env)) vs (tb D)
theorem lcG_core {pins : List (Addr × Obj)} {s : Shared} {σ : St} {H : Hp} {Q : VK} {elt tg iter : Expr} {ifs : List Expr} {rest : List Comprehension} {scope : Scope} {own : List (Str × Nat)} {vs1 : List Nat} {pos pos' : Pos} {wi : TI} {g : TG} {tt : TT} {tb : Addr → TB} {bd : Addr → Value → Env → Sem Fin} {use : Option (Value → Sem Unit)} {Qf : Value → Shared → Prop}
    (hT : ∀ D it env, compTurn (.ListComp elt (⟨tg, iter, ifs, 0⟩ :: rest) scope pos) 0 it (.ref D) env = tTurn ifs tg iter (bd D it env) (again (.compLoop (.ListComp elt (⟨tg, iter, ifs, 0⟩ :: rest) scope pos) 0 it (.ref D) env)) it env)
    (hc : X.calm = true) (hN : X.N.Nodup) (I : Inv X pins σ H s) (hi : PI X tg iter wi) (ok : BlkOk X.N X.env.scope scope own) (hv : ∀ i ∈ vs1, i ∈ own.map (·.2))
    (hg : ∀ (s : Shared) (H : Hp) (C : Addr) (cl : List (Str × Addr)) (fp : List Addr), PG (X.blk s H scope (compEnvC scope cl C X.env) fp) tg g) (ht : ∀ (s : Shared) (H : Hp) (C : Addr) (cl : List (Str × Addr)) (fp : List Addr), PTs (X.blk s H scope (compEnvC scope cl C X.env) fp) ifs tt)
    (hb : BdFam X scope bd (.ListComp elt (⟨tg, iter, ifs, 0⟩ :: rest) scope pos) vs1 tb) (hs : ∀ x, foldedSetIterable iter X.env x = pure x)
    (h : tLcN wi g tt tb (own.map (·.2)) σ H Q)
    (hRR : ∀ D C s' m H', Inv X pins σ H' s' → Q (.ref D) H' → s'.heap.Ns C m → FpOk X pins H' C → compPost (model X.prog X.w) X.A X.xe use Qf (.ref D) C (.ok .next) s') :
    wpAny (model X.prog X.w) X.A (comprehension (.ListComp elt (⟨tg, iter, ifs, 0⟩ :: rest) scope pos) scope X.env pos' (newList []) false (eval iter X.env) use) Qf X.xe s := by
  have hfree : ∀ y ∈ scope.names, y.2 = .free → ∃ c, X.env.cells.lookup y.1 = some c := fun y hy e => by
    rcases ok.free y hy e with k | k
    · exact I.ok.has _ (.inl k)
    · exact I.ok.has _ (.inr k)
  refine wpAny_comprehension_free (use := use) rfl hs (closure_ok hfree) ok.kind (fun y hy e => by rw [ok.uniq y hy, e])
    (thn (hi.run pins s σ H _ I h) fun xv s1 hx => thn hx fun itv s2 h2 => ?_)
  obtain ⟨it, fp, tn, J, H2, e, I2, T, st2, f2, q⟩ := h2
  subst e
  refine wpAny_newObj_type (newEnv_comp ?_) (by show 0 ≤ sizeLine; decide)
  generalize hD : s2.heap.objs.size = D
  have hDn : H2 D = none := I2.hok.fresh (Nat.le_of_eq hD)
  obtain ⟨W, ⟨m0, w0⟩, turn⟩ := q D hDn
  generalize hs3 : ({ s2 with heap := s2.heap.push { cls := .type "list", data := .seq ([] : List Value).toArray } } : Shared) = s3
  have I3 : Inv X pins σ (upd H2 D (.lst [])) s3 := by
    rw [← hs3]
    refine I2.laid (t' := s2.toks) (fun b o e => Heap.get?_push_of_some _ e) (Nat.le_of_eq hD) ⟨Nat.zero_le _, [], 0, .nil, ?_⟩
    rw [← hD]
    exact Heap.get?_push_size _ rfl
  have h3 : s3.heap = s2.heap.push { cls := .type "list", data := .seq ([] : List Value).toArray } := by rw [← hs3]
  have sz : ∀ b ∈ fp, b < s2.heap.objs.size := fun b hb => by
    obtain ⟨o, e, _⟩ := T.obj _ _ st2 b hb
    exact Heap.lt_size e
  have f3 : ∀ b ∈ fp, FpOk X pins (upd H2 D (.lst [])) b ∧ b < s3.heap.objs.size := fun b hb => by
    have hlt := sz b hb
    refine ⟨⟨?_, (f2 b hb).2⟩, by rw [h3, Heap.size_push]; exact Nat.lt_succ_of_lt hlt⟩
    rw [upd_ne (by rw [← hD]; exact Nat.ne_of_lt hlt)]
    exact (f2 b hb).1
  have st3 : tn 0 s3.heap := T.keep _ _ _ st2 fun b _ o e => by rw [h3]; exact Heap.get?_push_of_some _ e
  have I4 := block_start I3 ok hN f3
  have pg := hg s3 (upd H2 D (.lst [])) s3.heap.objs.size (cellsFrom (s3.heap.objs.size + 1) scope.names (cloFrom X.env.cells scope.names [])) fp
  have pt := ht s3 (upd H2 D (.lst [])) s3.heap.objs.size (cellsFrom (s3.heap.objs.size + 1) scope.names (cloFrom X.env.cells scope.names [])) fp
  have pb := hb s3 (upd H2 D (.lst [])) s3.heap.objs.size (cellsFrom (s3.heap.objs.size + 1) scope.names (cloFrom X.env.cells scope.names [])) fp D (.ref it)
  have hT := hT D (.ref it)
  show codeAny _ _ (.compStart (.ListComp elt (⟨tg, iter, ifs, 0⟩ :: rest) scope pos) 0 (.ref it) (.ref D) (compEnvC scope (cellsFrom (s3.heap.objs.size + 1) scope.names (cloFrom X.env.cells scope.names [])) s3.heap.objs.size X.env)) (compPost (model X.prog X.w) X.A X.xe use Qf (.ref D) s3.heap.objs.size) { s3 with heap := pushCells (s3.heap.push { cls := .type "dict", data := .dict #[] }) scope.names }
  have nfp : ∀ b ∈ fp, (upd H2 D (.lst [])) b = none := fun b hb => (f3 b hb).1.1
  generalize hce : compEnvC scope (cellsFrom (s3.heap.objs.size + 1) scope.names (cloFrom X.env.cells scope.names [])) s3.heap.objs.size X.env = ce at I4 pg pt pb ⊢
  have hT := hT ce
  have cL : ce.locals = s3.heap.objs.size := by subst hce; rfl
  generalize hH3 : upd H2 D (.lst []) = H3 at I3 I4 pg pt pb w0 nfp f3
  generalize hs4 : ({ s3 with heap := pushCells (s3.heap.push { cls := .type "dict", data := .dict #[] }) scope.names } : Shared) = s4 at I4 ⊢
  have st4 : tn 0 s4.heap := T.keep _ _ _ st3 fun b _ o e => by rw [← hs4]; exact pushCells_keeps _ _ _ _ (Heap.get?_push_of_some _ e)
  have stat : ∀ {σ' : St} {H' : Hp} {s' : Shared}, Inv (X.blk s3 H3 scope ce fp) [] σ' H' s' → (∀ b ∈ fp, H' b = none) → ∀ b ∈ fp, FpOk (X.blk s3 H3 scope ce fp) [] H' b := fun {σ' H' s'} I' hn b hb =>
    ⟨hn b hb, (I'.ok.exf b hb).1, I'.ok.exfs b hb, .inl hb, fun x c e => (I'.ok.exf b hb).2 x c e, fun p hp => absurd (show p ∈ ([] : List (Addr × Obj)) ++ [] from hp) (by simp)⟩
  have loop : codeAny (model X.prog X.w) X.A (.compLoop (.ListComp elt (⟨tg, iter, ifs, 0⟩ :: rest) scope pos) 0 (.ref it) (.ref D) ce) (compPost (model X.prog X.w) X.A X.xe use Qf (.ref D) s3.heap.objs.size) s4 := by
    refine compLoopG hT (fun n s' => ∃ i H', Inv (X.blk s3 H3 scope ce fp) [] (wipe σ (own.map (·.2))) H' s' ∧ tn i s'.heap ∧ (∀ b ∈ fp, H' b = none) ∧ W i n H') ?_ m0 ⟨0, H3, I4, st4, nfp, w0⟩
    rintro n s5 ⟨i, H5, I5, st5, n5, w5⟩
    rcases turn i n H5 w5 with ⟨stop, qq⟩ | ⟨go, Nx, hNx, step⟩
    · have td := T.done (X.blk s3 H3 scope ce fp) rfl rfl rfl hc i [] s5 _ H5 (fun _ _ => False) I5 (stat I5 n5) st5 stop
      refine thnF td fun r s6 ⟨hr, I6⟩ => ?_
      subst hr
      have I7 : Inv X pins σ H5 s6 := I3.call' (ch := fp) I6.os I6.base I6.hok I6.bare fun b hb => ⟨(f3 b hb).1.2.2.2.1, (f3 b hb).1.2.1, (f3 b hb).1.2.2.2.2.1, (f3 b hb).1.2.2.2.2.2⟩
      have nC : H5 s3.heap.objs.size = none := by
        have z : H5 ce.locals = none := I6.free
        rw [cL] at z
        exact z
      obtain ⟨m, hn, _⟩ := I6.loc
      have hn : s6.heap.Ns ce.locals m := hn
      rw [cL] at hn
      exact hRR D s3.heap.objs.size s6 m H5 I7 qq hn (I3.fpOk (Nat.le_refl _) nC)
    · have ti := T.item (X.blk s3 H3 scope ce fp) rfl rfl rfl hc i [] s5 _ H5 (fun _ _ => False) I5 (stat I5 n5) st5 go
      refine thnF ti fun r s6 ⟨u, hr, h6⟩ => ?_
      subst hr
      refine thnF h6 fun _ s7 ⟨x, H7, I7, r7, y7, st7, n7⟩ => ?_
      have I7' := I7.pinned (stat I7 n7) (T.obj _ _ st7)
      refine thnF (pg.run _ s7 _ H7 x u _ I7' r7 (step x H7 y7)) fun _ s8 ⟨σ8, H8, I8, hw8, q8⟩ => ?_
      refine thnF (pt.run _ s8 σ8 H8 _ I8 q8) fun b s9 ⟨H9, I9, q9⟩ => ?_
      have fin : ∀ {σ9 : St} {s' : Shared} {H' : Hp}, Inv (X.blk s3 H3 scope ce fp) ([] ++ pinsAt fp s7.heap) σ9 H' s' → (wipe σ (own.map (·.2))).length = σ9.length → (∀ (j : Nat) v, (wipe σ (own.map (·.2)))[j]? = some (some v) → σ9[j]? = some (some v)) → Nx H' →
          ∃ m, m < n ∧ ∃ i H', Inv (X.blk s3 H3 scope ce fp) [] (wipe σ (own.map (·.2))) H' s' ∧ tn i s'.heap ∧ (∀ b ∈ fp, H' b = none) ∧ W i m H' := fun {σ9 s' H'} I' hl hk nx => by
        obtain ⟨m', hm, w'⟩ := hNx H' nx
        have pin' : ∀ b ∈ fp, ∀ o, s7.heap.get? b = some o → s'.heap.get? b = some o ∧ H' b = none := fun b hb o e =>
          let z := I'.pin (b, o) (List.mem_append_right _ (List.mem_append_right _ (mem_pinsAt hb e)))
          ⟨z.1, z.2.1⟩
        refine ⟨m', hm, i + 1, H', (I'.unpinned (pins := [])).weak hl hk, T.keep _ _ _ st7 fun b hb o e => (pin' b hb o e).1, fun b hb => ?_, w'⟩
        obtain ⟨o, e, _⟩ := T.obj _ _ st7 b hb
        exact (pin' b hb o e).2
      have hl8 : (wipe σ (own.map (·.2))).length = σ8.length := by rw [← hw8, wipe_length]
      have hk8 : ∀ (j : Nat) v, (wipe σ (own.map (·.2)))[j]? = some (some v) → σ8[j]? = some (some v) := fun j v e => by
        rw [← hw8] at e
        exact (wipe_some e).1
      cases b with
      | false =>
        simp only [Bool.false_eq_true, if_false] at q9 ⊢
        exact fin I9 hl8 hk8 q9
      | true =>
        simp only [if_true] at q9 ⊢
        refine thnF (pb _ s9 σ8 H9 _ I9 q9) fun f s10 ⟨hf, H10, I10, nx⟩ => ?_
        refine ⟨hf, fin I10 (hl8.trans (wipe_length σ8 vs1).symm) (fun j v e => ?_) nx⟩
        rw [← hw8] at e
        obtain ⟨e1, e2⟩ := wipe_some e
        rw [wipe_out fun z => e2 (hv j z)]
        exact e1
  exact codeAny_compStart_list loop (T.self X.A 0 _ _ _ st4 loop)
theorem pe_lcG {elt tg iter : Expr} {ifs : List Expr} {rest : List Comprehension} {scope : Scope} {own : List (Str × Nat)} {vs1 : List Nat} {pos : Pos} {wi : TI} {g : TG} {tt : TT} {tb : Addr → TB} {bd : Addr → Value → Env → Sem Fin}
    (hT : ∀ D it env, compTurn (.ListComp elt (⟨tg, iter, ifs, 0⟩ :: rest) scope pos) 0 it (.ref D) env = tTurn ifs tg iter (bd D it env) (again (.compLoop (.ListComp elt (⟨tg, iter, ifs, 0⟩ :: rest) scope pos) 0 it (.ref D) env)) it env)
    (hc : X.calm = true) (hN : X.N.Nodup) (hi : PI X tg iter wi) (ok : BlkOk X.N X.env.scope scope own) (hv : ∀ i ∈ vs1, i ∈ own.map (·.2))
    (hg : ∀ (s : Shared) (H : Hp) (C : Addr) (cl : List (Str × Addr)) (fp : List Addr), PG (X.blk s H scope (compEnvC scope cl C X.env) fp) tg g) (ht : ∀ (s : Shared) (H : Hp) (C : Addr) (cl : List (Str × Addr)) (fp : List Addr), PTs (X.blk s H scope (compEnvC scope cl C X.env) fp) ifs tt)
    (hb : BdFam X scope bd (.ListComp elt (⟨tg, iter, ifs, 0⟩ :: rest) scope pos) vs1 tb) (hs : ∀ x, foldedSetIterable iter X.env x = pure x) :
    PE X (.ListComp elt (⟨tg, iter, ifs, 0⟩ :: rest) scope pos) (tLcN wi g tt tb (own.map (·.2))) := by
  refine ⟨fun pins s σ H Q I h => ?_⟩
  rw [eval_ListComp]
  refine lcG_core hT hc hN I hi ok hv hg ht hb hs h fun D C s' m H' I' q hn f => ⟨m, hn, fun h'' sb => ?_⟩
  obtain ⟨f0, f1, f2, f3, f4, f5⟩ := f
  exact ⟨.ref D, H', I'.turned (t' := s'.toks) (fun b o hb e => (sb.2 b hb).trans e) f0 f1 f3 f4 f5, rfl, q⟩
theorem ps_setLcG {i : Nat} {y : Str} {py : Pos} {elt tg iter : Expr} {ifs : List Expr} {rest : List Comprehension} {scope : Scope} {own : List (Str × Nat)} {vs1 : List Nat} {pos spos : Pos} {wi : TI} {g : TG} {tt : TT} {tb : Addr → TB} {bd : Addr → Value → Env → Sem Fin}
    (hT : ∀ D it env, compTurn (.ListComp elt (⟨tg, iter, ifs, 0⟩ :: rest) scope pos) 0 it (.ref D) env = tTurn ifs tg iter (bd D it env) (again (.compLoop (.ListComp elt (⟨tg, iter, ifs, 0⟩ :: rest) scope pos) 0 it (.ref D) env)) it env)
    (hc : X.calm = true) (hN : X.N.Nodup) (hy : X.N[i]? = some y) (hyl : X.env.scope.names.lookup y = some .local)
    (hsw : swapsWith (.ListComp elt (⟨tg, iter, ifs, 0⟩ :: rest) scope pos) (some (.Name y py)) spos.line X.env = pure true) (hi : PI X tg iter wi) (ok : BlkOk X.N X.env.scope scope own) (hv : ∀ i ∈ vs1, i ∈ own.map (·.2))
    (hg : ∀ (s : Shared) (H : Hp) (C : Addr) (cl : List (Str × Addr)) (fp : List Addr), PG (X.blk s H scope (compEnvC scope cl C X.env) fp) tg g) (ht : ∀ (s : Shared) (H : Hp) (C : Addr) (cl : List (Str × Addr)) (fp : List Addr), PTs (X.blk s H scope (compEnvC scope cl C X.env) fp) ifs tt)
    (hb : BdFam X scope bd (.ListComp elt (⟨tg, iter, ifs, 0⟩ :: rest) scope pos) vs1 tb) (hs : ∀ x, foldedSetIterable iter X.env x = pure x) :
    PS X (.Assign [.Name y py] (.ListComp elt (⟨tg, iter, ifs, 0⟩ :: rest) scope pos) spos) (tAsg (tLcN wi g tt tb (own.map (·.2))) (gName i)) := by
  refine ⟨fun pins s σ H D I h => ?_⟩
  rw [exec_Assign_Name_used _ _ _ _ hsw]
  refine wpAny_bind (wpAny_standAt (wpAny_bind ?_))
  show wpAny _ X.A (do let _ ← comprehension (.ListComp elt (⟨tg, iter, ifs, 0⟩ :: rest) scope pos) scope X.env (firstIterPos (⟨tg, iter, ifs, 0⟩ :: rest) pos) (newList []) false (eval iter X.env) (some (assign (.Name y py) X.env))) _ _ s
  have h : tLcN wi g tt tb (own.map (·.2)) σ H (fun x H1 => gName i x σ H1 D.nx) := h
  refine wpAny_bind (thn (lcG_core (Qf := fun _ s' => SP X pins D .next s') hT hc hN I hi ok hv hg ht hb hs h fun L C s' m H' I' q hn f => ?_) fun _ s' hq => wpAny_pure (wpAny_pure hq))
  show wpAny _ _ (assign (.Name y py) X.env (.ref L)) _ _ _
  refine wpAny_assign_Name (store_ok2 (v := V.ref L) I' hN hy (.inl hyl) rfl (fun s2 I2 ⟨a, sb, ha⟩ => ?_) (.inr hyl))
  obtain ⟨f0, f1, f2, f3, f4, f5⟩ := f
  have haC : C ≠ a := by
    rcases ha with z | z
    · rw [z]; exact f1
    · exact fun e => f4 y a z e.symm
  refine ⟨m, hn.sameBut sb haC, fun h3 sb3 => ?_⟩
  exact ⟨_, H', I2.turned (t' := s2.toks) (fun b o hb e => (sb3.2 b hb).trans e) f0 f1 f3 f4 f5, q⟩
end
end L2
namespace Mir
open PySem PySem.Spec L2
open PyProof.Rows (envOfC)
def valsS : Sl → Sl
  | .own _ => .unk
  | s => s
def vals (Γ : Gam) : Gam := Γ.map valsS
theorem vals_at {Γ : Gam} {i : Nat} {d : D} (h : (vals Γ)[i]? = some (Sl.val d)) : Γ[i]? = some (Sl.val d) := by
  unfold vals at h
  rw [List.getElem?_map] at h
  cases q : Γ[i]? with
  | none => rw [q] at h; cases h
  | some s => rw [q] at h; cases s <;> first | exact h | cases h
theorem vals_own {Γ : Gam} {i : Nat} {d : D} (h : (vals Γ)[i]? = some (Sl.own d)) : False := by
  unfold vals at h
  rw [List.getElem?_map] at h
  cases q : Γ[i]? with
  | none => rw [q] at h; cases h
  | some s => rw [q] at h; cases s <;> cases h
theorem vals_ref {Γ : Gam} {i : Nat} {d : RefK} (h : (vals Γ)[i]? = some (Sl.ref d)) : Γ[i]? = some (Sl.ref d) := by
  unfold vals at h
  rw [List.getElem?_map] at h
  cases q : Γ[i]? with
  | none => rw [q] at h; cases h
  | some s => rw [q] at h; cases s <;> first | exact h | cases h
theorem Holds.plain {G : GG} {H0 S1 H1 S H S' H' : Hp} {σ : L2.St} {Γ : Gam} (h : Holds G H0 σ S H Γ) (e : Ex S S') (e1 : Ex S' H') (e0 : Ex H0 H') : Holds G H0 σ S' H' (vals Γ) where
  ex := e1
  e0 := e0
  len := Nat.le_trans (Nat.le_of_eq (by unfold vals; rw [List.length_map])) h.len
  val := fun i d q => let ⟨v, a, b⟩ := h.val i d (vals_at q); ⟨v, a, b.mono e⟩
  own := fun i d q => (vals_own q).elim
  dis := fun i j d e p q => (vals_own q).elim
  ref := fun i a q => ⟨(h.ref i a (vals_ref q)).1, (h.ref i a (vals_ref q)).2.mono e⟩
def subL (a b : List Bool) : Bool := (List.range a.length).all fun i => !(a.getD i false) || b.getD i false
theorem subL_at {a b : List Bool} (h : subL a b = true) {i : Nat} (k : a[i]? = some true) : b[i]? = some true := by
  have hi : i < a.length := (List.getElem?_eq_some_iff.mp k).1
  have := List.all_eq_true.mp h i (List.mem_range.mpr hi)
  rw [Bool.or_eq_true] at this
  rcases this with z | z
  · rw [List.getD_eq_getElem?_getD, k] at z; cases z
  · rw [List.getD_eq_getElem?_getD] at z
    cases q : b[i]? with
    | none => rw [q] at z; cases z
    | some c => rw [q] at z; exact congrArg some z
def withL (F : Fm) (L : List Bool) (h : subL L F.L = true) : Fm := { F with L := L, loc := fun X hX i x hL hN => F.loc X hX i x (subL_at h hL) hN }
abbrev RB := Gam → M (List D) → Prop
def SemB (G : GG) (tb : Addr → TB) (R : RB) : Prop := ∀ Γ mb xs, R Γ mb → mb = .ok xs → ∀ H0 σ S1 H1 S H D acc (Nx : Hp → Prop), H1 D = none → Ex H0 H1 → Holds G H0 σ S H Γ → Bs G S1 H1 D acc S H → acc.length + xs.length ≤ sizeLine →
  (∀ S' H', Ex S S' → Bs G S1 H1 D (acc ++ xs) S' H' → Nx H') → tb D σ H Nx
def ElB (F : Fm) (elt : Expr) : RB := fun Γ mb => ∃ me, EM F elt Γ me ∧ mb = me.bind fun y => .ok [y]
def TurnG (F : Fm) (Γ : Gam) (tf : D → Gam → Option Gam) (ifs : List Expr) (R : RB) (f : D → M (List D)) : Prop :=
  ∀ d, (∃ Γ' mt mb, tf d Γ = some Γ' ∧ IfM F ifs Γ' mt ∧ R Γ' mb ∧ f d = ifM mt mb (.ok [])) ∨ f d = .stk
def InB (F : Fm) (tg i : Expr) (vs : List Nat) (tf : D → Gam → Option Gam) (ifs : List Expr) (R : RB) : RB := fun Γ mb =>
  ∃ mi f, IM F tg i Γ mi ∧ TurnG F (wipeΓ (vals Γ) vs) tf ifs R f ∧ mb = mi.bind fun ds => compL f ds
theorem sem_el {F : Fm} {elt : Expr} : SemB F.G (fun D => tEl (cE F elt) D) (ElB F elt) := by
  rintro Γ mb xs ⟨me, hme, rfl⟩ hx H0 σ S1 H1 S H D acc Nx hD e0 hh b hl hN
  cases me with
  | stk => cases hx
  | exn e => cases hx
  | ok y =>
    cases hx
    refine hme.c H0 σ S H _ hh (fun S6 H6 g6 v rv => ?_)
    have b6 := b.step g6
    obtain ⟨vs, hvs, hlen⟩ := b6.len
    refine ⟨vs, hvs, ?_, hN S6 _ g6.s (b6.add hD rv hvs)⟩
    rw [List.length_cons, List.length_nil] at hl
    omega
abbrev TgSem (G : GG) (g : TG) (tf : D → Gam → Option Gam) (L : List Bool) : Prop := ∀ H0 σ S H v d Γ Γ' (Q : L2.St → Hp → Prop), Holds G H0 σ S H Γ → Rep G S v d → tf d Γ = some Γ' → (∀ σ', Holds G H0 σ' S H Γ' → σ'.length = σ.length → (∀ i : Nat, L[i]? ≠ some true → σ'[i]? = σ[i]?) → Q σ' H) → g v σ H Q
theorem wipe_turn {σ σ' : L2.St} {vs : List Nat} {L : List Bool} (l : σ'.length = (wipe σ vs).length) (k : ∀ i : Nat, L[i]? ≠ some true → σ'[i]? = (wipe σ vs)[i]?) (hw : ∀ i : Nat, L[i]? = some true → i ∈ vs) : wipe σ' vs = wipe σ vs := by
  refine (wipe_eq l k hw).trans ?_
  refine List.ext_getElem? fun j => ?_
  by_cases hj : j ∈ vs
  · rw [wipe_at hj, wipe_at hj, wipe_length]
  · rw [wipe_out hj]
theorem sem_in {F : Fm} {tg i : Expr} {vs : List Nat} {tf : D → Gam → Option Gam} {ifs : List Expr} {R : RB} {tb : Addr → TB} {g : TG} {L : List Bool} (hb : SemB F.G tb R) (hg : TgSem F.G g tf L) (hw : ∀ i : Nat, L[i]? = some true → i ∈ vs) :
    SemB F.G (fun D => tIn (cI F tg i) g (cP F ifs) (tb D) vs) (InB F tg i vs tf ifs R) := by
  rintro Γ mb xs ⟨mi, f, hi, ht, rfl⟩ hx H0 σ S1 H1 S H D acc Nx hD e0 hh b hl hN
  cases mi with
  | stk => cases hx
  | exn e => cases hx
  | ok ds =>
    have hx : compL f ds = .ok xs := hx
    refine hi.c H0 σ S H _ hh (fun Sa Ha ga J hJ => ?_)
    have ba := b.step ga
    have ha := hh.grow ga
    refine ⟨fun j m H => m = ds.length - j ∧ j ≤ ds.length ∧ ∃ S2 ac r, Ex Sa S2 ∧ Bs F.G S1 H1 D (acc ++ ac) S2 H ∧ compL f (ds.drop j) = .ok r ∧ ac ++ r = xs, ⟨ds.length, by simp, Nat.zero_le _, Sa, [], xs, Same.refl _, by rw [List.append_nil]; exact ba, hx, rfl⟩, ?_⟩
    rintro j m H2 ⟨rfl, hj, S2, ac, r, e2, b2, hr, hac⟩
    obtain ⟨stop, go⟩ := hJ S2 H2 e2 b2.grow.sub
    by_cases hlt : j < ds.length
    · obtain ⟨hgo, hy⟩ := go j ds[j] (List.getElem?_eq_getElem hlt)
      rw [List.drop_eq_getElem_cons hlt] at hr
      obtain ⟨ys, r', hy1, hr', rfl⟩ := compL_cons hr
      refine .inr ⟨hgo, fun H => ∃ S3, Ex Sa S3 ∧ Bs F.G S1 H1 D (acc ++ (ac ++ ys)) S3 H, fun H' ⟨S', e', b'⟩ => ⟨ds.length - (j + 1), by omega, rfl, hlt, S', ac ++ ys, r', e', b', hr', by rw [List.append_assoc]; exact hac⟩, fun x H3 y => ?_⟩
      obtain ⟨S3, g3, r3⟩ := hy x H3 y
      rcases ht ds[j] with ⟨Γ', mt, me, q1, hif, hR, hf⟩ | z
      · have b3 := b2.step g3
        have h3 : Holds F.G H0 _ S3 H3 _ := (Holds.plain (S1 := S) (H1 := H) ha (e2.trans g3.s) g3.sub (e0.trans b3.grow.h)).wipe vs
        refine hg H0 _ S3 H3 x ds[j] _ Γ' _ h3 r3 q1 fun σ4 h4 l4 k4 => ⟨wipe_turn l4 k4 hw, ?_⟩
        rw [hf] at hy1
        cases mt with
        | stk => cases hy1
        | exn e => cases hy1
        | ok c =>
          refine hif.c H0 σ4 S3 H3 _ h4 (fun S5 H5 g5 => ?_)
          have e5 : Ex Sa S5 := (e2.trans g3.s).trans g5.s
          cases c with
          | false =>
            cases hy1
            refine iteF ?_
            rw [List.append_nil]
            exact ⟨S5, e5, b3.step g5⟩
          | true =>
            have hy1 : me = .ok ys := hy1
            refine iteT (hb Γ' me ys hR hy1 H0 σ4 S1 H1 S5 H5 D (acc ++ ac) _ hD e0 (h4.grow g5) (b3.step g5) ?_ ?_)
            · have : (ac ++ (ys ++ r')).length = xs.length := congrArg List.length hac
              simp only [List.length_append] at this ⊢
              omega
            · intro S' H' e' b'
              refine ⟨S', e5.trans e', ?_⟩
              rw [← List.append_assoc]
              exact b'
      · rw [z] at hy1; cases hy1
    · have e : j = ds.length := by omega
      subst e
      rw [List.drop_length] at hr
      cases hr
      rw [List.append_nil] at hac
      subst hac
      exact .inl ⟨stop, hN S2 H2 (ga.s.trans e2) b2⟩
section
variable {F : Fm} {Γ : Gam} {scope : Scope} {own : List (Str × Nat)} {V L : List Bool} {kd : List (Str × NameKind)} {elt tg iter : Expr} {ifs : List Expr} {pos : Pos} {mi : M (List D)} {f : D → M (List D)} {tf : D → Gam → Option Gam} {R : RB} {tb : Addr → TB}
theorem ev_lcG (B : BlkF F scope own V L kd) (hi : IM F tg iter Γ mi) {g : TG} (hg : TgSem F.G g tf L) (hb : SemB F.G tb R)
    (ht : TurnG (blkF F B) (wipeΓ (vals Γ) (own.map (·.2))) tf ifs R f) : EvM F (tLcN (cI F tg iter) g (cP (blkF F B) ifs) tb (own.map (·.2))) Γ (lcM mi f) := by
  intro H0 σ S H Q hh po
  refine hi.c H0 σ S H _ hh ((Po.bind po).imp fun ds S1 H1 g1 q1 J hJ => ?_)
  intro A hA
  cases hc : compL f ds with
  | stk => rw [hc] at q1; exact False.elim q1
  | exn e => rw [hc] at q1; exact False.elim q1
  | ok xs =>
    rw [hc] at q1
    obtain ⟨hR, q1⟩ := Po.gate (m := M.ok (D.lst xs)) q1
    have h1 : Holds F.G H0 σ S1 H1 Γ := hh.grow g1
    refine ⟨fun i m H => m = ds.length - i ∧ i ≤ ds.length ∧ ∃ S acc r, Bs F.G S1 H1 A acc S H ∧ compL f (ds.drop i) = .ok r ∧ acc ++ r = xs, ⟨ds.length, by simp, Nat.zero_le _, S1, [], xs, Bs.start g1.sub hA, hc, rfl⟩, ?_⟩
    rintro i m H2 ⟨rfl, hi, S2, acc, r, b, hr, hR2⟩
    obtain ⟨stop, go⟩ := hJ S2 H2 b.grow.s b.grow.sub
    by_cases hlt : i < ds.length
    · obtain ⟨hgo, hy⟩ := go i ds[i] (List.getElem?_eq_getElem hlt)
      rw [List.drop_eq_getElem_cons hlt] at hr
      obtain ⟨ys, r', hx, hr', rfl⟩ := compL_cons hr
      refine .inr ⟨hgo, fun H => ∃ S, Bs F.G S1 H1 A (acc ++ ys) S H, fun H' ⟨S', b'⟩ => ⟨ds.length - (i + 1), by omega, rfl, hlt, S', acc ++ ys, r', b', hr', by rw [List.append_assoc]; exact hR2⟩, fun x H3 y => ?_⟩
      obtain ⟨S3, g3, r3⟩ := hy x H3 y
      rcases ht ds[i] with ⟨Γ', mt, me, e1, hif, hRR, hf⟩ | z
      · have b3 := b.step g3
        have h3 := (Holds.plain (S1 := S) (H1 := H) h1 (b.grow.s.trans g3.s) g3.sub (h1.e0.trans b3.grow.h)).wipe (own.map (·.2))
        refine hg H0 _ S3 H3 x ds[i] _ Γ' _ h3 r3 e1 fun σ4 h4 l4 k4 => ⟨wipe_turn l4 k4 B.hw, ?_⟩
        rw [hf] at hx
        cases mt with
        | stk => cases hx
        | exn e => cases hx
        | ok c =>
          refine hif.c H0 σ4 S3 H3 _ h4 (fun S5 H5 g5 => ?_)
          cases c with
          | false =>
            cases hx
            refine iteF ?_
            rw [List.append_nil]
            exact ⟨S5, b3.step g5⟩
          | true =>
            have hx : me = .ok ys := hx
            refine iteT (hb Γ' me ys hRR hx H0 σ4 S1 H1 S5 H5 A acc _ hA h1.e0 (h4.grow g5) (b3.step g5) ?_ fun S' H' _ b' => ⟨S', b'⟩)
            have : (acc ++ (ys ++ r')).length = xs.length := congrArg List.length hR2
            simp only [List.length_append] at this
            omega
      · rw [z] at hx; cases hx
    · have e : i = ds.length := by omega
      subst e
      rw [List.drop_length] at hr
      cases hr
      rw [List.append_nil] at hR2
      subst hR2
      obtain ⟨S', g', rr⟩ := b.done hA
      exact .inl ⟨stop, q1 S' H2 g' _ rr⟩
end
def hwL (L : List Bool) (vs : List Nat) : Bool := (List.range L.length).all fun i => !(L.getD i false) || vs.contains i
theorem hwL_at {L : List Bool} {vs : List Nat} (h : hwL L vs = true) (i : Nat) (k : L[i]? = some true) : i ∈ vs := by
  have hi : i < L.length := (List.getElem?_eq_some_iff.mp k).1
  have := List.all_eq_true.mp h i (List.mem_range.mpr hi)
  rw [Bool.or_eq_true] at this
  rcases this with z | z
  · rw [List.getD_eq_getElem?_getD, k] at z; cases z
  · simpa using z
section
variable {F : Fm} {Γ : Gam} {scope : Scope} {own : List (Str × Nat)} {V L : List Bool} {kd : List (Str × NameKind)} {elt tg iter tg1 iter1 tg2 iter2 : Expr} {ifs ifs1 ifs2 : List Expr} {pos : Pos} {mi : M (List D)} {f : D → M (List D)} {tf tf1 tf2 : D → Gam → Option Gam}
def BdM (F : Fm) {scope : Scope} {own : List (Str × Nat)} {V L : List Bool} {kd : List (Str × NameKind)} (B : BlkF F scope own V L kd) (bd : Addr → Value → Env → Sem Fin) (E : Expr) (k : Nat) (vs : List Nat) (R : RB) : Prop :=
  ∃ tb, SemB F.G tb R ∧ ∀ X, F.Xs X → ∀ (s : Shared) (H : Hp) (C : Addr) (cl : List (Str × Addr)) (fp : List Addr) (D : Addr) (it : Value), PBd (X.blk s H scope (compEnvC scope cl C X.env) fp) (bd D it (compEnvC scope cl C X.env)) (.compLoop E k it (.ref D) (compEnvC scope cl C X.env)) vs (tb D)
theorem bd_el {B : BlkF F scope own V L kd} {E : Expr} {k : Nat} : BdM F B (fun D it env => bdIn E elt k it (.ref D) env) E k [] (ElB (blkF F B) elt) :=
  ⟨_, sem_el (F := blkF F B), fun X hX s H C cl fp D it => pbd_in (cE_ok _ ⟨X, s, H, C, cl, fp, hX, rfl⟩)⟩
theorem bd_in {B : BlkF F scope own V L kd} {gs : List Comprehension} {sc : Scope} {k : Nat} {L1 : List Bool} {vs1 vs2 : List Nat} {bd1 : Addr → Value → Env → Sem Fin} {R : RB} (hcm : F.cm = true) (hk : gs[k + 1]? = some ⟨tg1, iter1, ifs1, 0⟩)
    (hT : ∀ D it env, compTurn (.ListComp elt gs sc pos) (k + 1) it (.ref D) env = tTurn ifs1 tg1 iter1 (bd1 D it env) (again (.compLoop (.ListComp elt gs sc pos) (k + 1) it (.ref D) env)) it env)
    (hs1 : ∀ env x, foldedSetIterable iter1 env x = pure x) (hL : subL L1 L = true) (hw : hwL L1 vs1 = true) (hv : vs2.all vs1.contains = true) (hg : TgM (withL (blkF F B) L1 hL) tg1 tf1) (hb : BdM F B bd1 (.ListComp elt gs sc pos) (k + 1) vs2 R) :
    BdM F B (fun D it env => bdOut (.ListComp elt gs sc pos) iter1 k it (.ref D) env) (.ListComp elt gs sc pos) k vs1 (InB (blkF F B) tg1 iter1 vs1 tf1 ifs1 R) := by
  obtain ⟨tb, h1, h2⟩ := hb
  obtain ⟨g, pg, eg⟩ := hg
  refine ⟨_, sem_in (F := blkF F B) (L := L1) h1 (fun H0 σ S H v d Γ Γ' Q => eg H0 σ S H v d Γ Γ' Q) (hwL_at hw), fun X hX s H C cl fp D it => ?_⟩
  have hY : (blkF F B).Xs (X.blk s H scope (compEnvC scope cl C X.env) fp) := ⟨X, s, H, C, cl, fp, hX, rfl⟩
  exact pbd_out rfl hk (F.hc hcm X hX) (fun it => hT D it _) (fun i hi => by simpa using List.all_eq_true.mp hv i hi) (hs1 _) (cI_ok _ hY) (pg _ hY) (cP_ok _ hY) (fun it => h2 X hX s H C cl fp D it)
theorem em_lcG {R : RB} {rest : List Comprehension} {vs1 : List Nat} {bd : Addr → Value → Env → Sem Fin} (B : BlkF F scope own V L kd) (hcm : F.cm = true)
    (hT : ∀ D it env, compTurn (.ListComp elt (⟨tg, iter, ifs, 0⟩ :: rest) scope pos) 0 it (.ref D) env = tTurn ifs tg iter (bd D it env) (again (.compLoop (.ListComp elt (⟨tg, iter, ifs, 0⟩ :: rest) scope pos) 0 it (.ref D) env)) it env)
    (hi : IM F tg iter Γ mi) (hg : TgM (blkF F B) tg tf) (hv : vs1.all (own.map (·.2)).contains = true) (hb : BdM F B bd (.ListComp elt (⟨tg, iter, ifs, 0⟩ :: rest) scope pos) 0 vs1 R) (ht : TurnG (blkF F B) (wipeΓ (vals Γ) (own.map (·.2))) tf ifs R f)
    (hs : ∀ X, F.Xs X → ∀ x, foldedSetIterable iter X.env x = pure x) : EM F (.ListComp elt (⟨tg, iter, ifs, 0⟩ :: rest) scope pos) Γ (lcM mi f) := by
  obtain ⟨g, pg, eg⟩ := hg
  obtain ⟨tb, h1, h2⟩ := hb
  refine ⟨_, fun X hX => ?_, ev_lcG B hi (g := g) (fun H0 σ S H v d Γ Γ' Q => eg H0 σ S H v d Γ Γ' Q) h1 ht⟩
  have hn := F.hN X hX
  exact pe_lcG hT (F.hc hcm X hX) (by rw [hn]; exact F.nd) (cI_ok X hX) (by rw [hn]; exact blk_of (by rw [F.hkd X hX]; exact B.ok)) (fun i hi => by have h := List.all_eq_true.mp hv i hi; rw [List.contains_iff_mem] at h; exact h) (fun s H C cl fp => pg _ ⟨X, s, H, C, cl, fp, hX, rfl⟩) (fun s H C cl fp => cP_ok _ ⟨X, s, H, C, cl, fp, hX, rfl⟩) (h2 X hX) (hs X hX)
theorem gm_lcG {R : RB} {rest : List Comprehension} {vs1 : List Nat} {bd : Addr → Value → Env → Sem Fin} (i : Nat) {x : Str} {py spos : Pos} (hx : F.N[i]? = some x) (B : BlkF F scope own V L kd) (hcm : F.cm = true)
    (hT : ∀ D it env, compTurn (.ListComp elt (⟨tg, iter, ifs, 0⟩ :: rest) scope pos) 0 it (.ref D) env = tTurn ifs tg iter (bd D it env) (again (.compLoop (.ListComp elt (⟨tg, iter, ifs, 0⟩ :: rest) scope pos) 0 it (.ref D) env)) it env)
    (hi : IM F tg iter Γ mi) (hg : TgM (blkF F B) tg tf) (hv : vs1.all (own.map (·.2)).contains = true) (hb : BdM F B bd (.ListComp elt (⟨tg, iter, ifs, 0⟩ :: rest) scope pos) 0 vs1 R) (ht : TurnG (blkF F B) (wipeΓ (vals Γ) (own.map (·.2))) tf ifs R f)
    (hs : ∀ X, F.Xs X → ∀ x, foldedSetIterable iter X.env x = pure x)
    (hk : F.kd.lookup x = some .local) (hl : (py.line == pos.line) = true) (ha : (scope.names.any fun (n, k) => n == x && (k == .local || k == .cell)) = false) : GM F (.Assign [.Name x py] (.ListComp elt (⟨tg, iter, ifs, 0⟩ :: rest) scope pos) spos) i Γ (lcM mi f) := by
  obtain ⟨g, pg, eg⟩ := hg
  obtain ⟨tb, h1, h2⟩ := hb
  refine ⟨_, fun X hX => ?_, ev_lcG B hi (g := g) (fun H0 σ S H v d Γ Γ' Q => eg H0 σ S H v d Γ Γ' Q) h1 ht⟩
  have hn := F.hN X hX
  have hk' : X.env.scope.names.lookup x = some .local := by rw [F.hkd X hX]; exact hk
  exact ps_setLcG hT (F.hc hcm X hX) (by rw [hn]; exact F.nd) (by rw [hn]; exact hx) hk' (sw_true (F.hki X hX) hk' hl ha) (cI_ok X hX) (by rw [hn]; exact blk_of (by rw [F.hkd X hX]; exact B.ok)) (fun i hi => by have h := List.all_eq_true.mp hv i hi; rw [List.contains_iff_mem] at h; exact h) (fun s H C cl fp => pg _ ⟨X, s, H, C, cl, fp, hX, rfl⟩) (fun s H C cl fp => cP_ok _ ⟨X, s, H, C, cl, fp, hX, rfl⟩) (h2 X hX) (hs X hX)
abbrev E2 (elt tg iter : Expr) (ifs : List Expr) (tg1 iter1 : Expr) (ifs1 : List Expr) (scope : Scope) (pos : Pos) : Expr := .ListComp elt [⟨tg, iter, ifs, 0⟩, ⟨tg1, iter1, ifs1, 0⟩] scope pos
abbrev E3 (elt tg iter : Expr) (ifs : List Expr) (tg1 iter1 : Expr) (ifs1 : List Expr) (tg2 iter2 : Expr) (ifs2 : List Expr) (scope : Scope) (pos : Pos) : Expr := .ListComp elt [⟨tg, iter, ifs, 0⟩, ⟨tg1, iter1, ifs1, 0⟩, ⟨tg2, iter2, ifs2, 0⟩] scope pos
theorem gm_lc2 {L1 : List Bool} {vs1 : List Nat} (i : Nat) {x : Str} {py spos : Pos} (hx : F.N[i]? = some x) (B : BlkF F scope own V L kd) (hL : subL L1 L = true) (hw : hwL L1 vs1 = true) (hv : vs1.all (own.map (·.2)).contains = true) (hcm : F.cm = true) (hi : IM F tg iter Γ mi) (hg : TgM (blkF F B) tg tf) (hg1 : TgM (withL (blkF F B) L1 hL) tg1 tf1)
    (ht : TurnG (blkF F B) (wipeΓ (vals Γ) (own.map (·.2))) tf ifs (InB (blkF F B) tg1 iter1 vs1 tf1 ifs1 (ElB (blkF F B) elt)) f)
    (hk : F.kd.lookup x = some .local) (hl : (py.line == pos.line) = true) (hl2 : (py.line == spos.line) = true) (ha : (scope.names.any fun (n, k) => n == x && (k == .local || k == .cell)) = false)
    (hs : ∀ X, F.Xs X → ∀ x, foldedSetIterable iter X.env x = pure x := by intros; rfl) (hs1 : ∀ env x, foldedSetIterable iter1 env x = pure x := by intros; rfl) : GM F (.Assign [.Name x py] (E2 elt tg iter ifs tg1 iter1 ifs1 scope pos) spos) i Γ (lcM mi f) :=
  gm_lcG i hx B hcm (fun D it env => turn2_0 it (.ref D) env) hi hg hv (bd_in hcm rfl (fun D it env => turn2_1 it (.ref D) env) hs1 hL hw rfl hg1 bd_el) ht hs hk hl ha
theorem em_lc3 {L1 L2 : List Bool} {vs1 vs2 : List Nat} (B : BlkF F scope own V L kd) (hL : subL L1 L = true) (hw : hwL L1 vs1 = true) (hv : vs1.all (own.map (·.2)).contains = true) (hL2 : subL L2 L = true) (hw2 : hwL L2 vs2 = true) (hv2 : vs2.all vs1.contains = true)
    (hcm : F.cm = true) (hi : IM F tg iter Γ mi) (hg : TgM (blkF F B) tg tf) (hg1 : TgM (withL (blkF F B) L1 hL) tg1 tf1) (hg2 : TgM (withL (blkF F B) L2 hL2) tg2 tf2)
    (ht : TurnG (blkF F B) (wipeΓ (vals Γ) (own.map (·.2))) tf ifs (InB (blkF F B) tg1 iter1 vs1 tf1 ifs1 (InB (blkF F B) tg2 iter2 vs2 tf2 ifs2 (ElB (blkF F B) elt))) f)
    (hs : ∀ X, F.Xs X → ∀ x, foldedSetIterable iter X.env x = pure x := by intros; rfl) (hs1 : ∀ env x, foldedSetIterable iter1 env x = pure x := by intros; rfl) (hs2 : ∀ env x, foldedSetIterable iter2 env x = pure x := by intros; rfl) : EM F (E3 elt tg iter ifs tg1 iter1 ifs1 tg2 iter2 ifs2 scope pos) Γ (lcM mi f) :=
  em_lcG B hcm (fun D it env => turn3_0 it (.ref D) env) hi hg hv (bd_in hcm rfl (fun D it env => turn3_1 it (.ref D) env) hs1 hL hw hv2 hg1 (bd_in hcm rfl (fun D it env => turn3_2 it (.ref D) env) hs2 hL2 hw2 rfl hg2 bd_el)) ht hs
end
def blkAll (N : List Str) (kd0 : List (Str × NameKind)) (scope : Scope) (own : List (Str × Nat)) (V L : List Bool) : Bool :=
  blkC N (dumS kd0) scope own && visC N V (relN kd0 scope.names) && locC N L (relN kd0 scope.names) scope.names && ((List.range L.length).all fun i => !(L.getD i false) || own.any fun p => p.2 == i)
theorem blkF_of {F : Fm} {scope : Scope} {own : List (Str × Nat)} {V L : List Bool} (N : List Str) (kd0 : List (Str × NameKind)) (hN : F.N = N) (hk : F.kd = kd0) (h : blkAll N kd0 scope own V L = true) : BlkF F scope own V L (relN kd0 scope.names) := by
  subst hN hk
  unfold blkAll at h
  rw [Bool.and_eq_true, Bool.and_eq_true, Bool.and_eq_true] at h
  exact ⟨h.1.1.1, rfl, h.1.1.2, h.1.2, h.2⟩
end Mir
namespace Mir
open PySem PySem.Spec L2
open PyProof.Rows (envOfC)
structure XcN (G : GG) (x : Str) (tab : List Bool) : Prop where
  ex : ∃ (cv : Value) (v : V), (G.mg x = some cv ∨ (G.mg x = none ∧ bootBuiltins x = some cv ∧ x ≠ "__name__")) ∧ RelV v cv ∧ (∀ u, RelV v u → u = cv) ∧
    (∀ c b, tab[c]? = some b → PySem.W.exmOne G.K (G.xc c) cv = some b ∧ PySem.W.kitOne G.K (G.xc c) cv = some b)
  db : (x == ("__debug__" : Str)) = false
structure XcI (G : GG) (c : Nat) : Prop where
  ex : ∃ Dc, G.xc c = .ref Dc ∧ ExcC G.K Dc
def refK (a : Addr) (dd : Option Addr) (e : Exc) : RefK := ⟨a, dd.map fun d => (d, e.fs)⟩
def tryF (F : Fm) (W' : WX) : Fm where
  G := F.G
  W := W'
  N := F.N
  V := F.V
  L := F.L
  kd := F.kd
  Xs := fun Y => ∃ X pn xe, F.Xs X ∧ L2N.Takes (X.tr pn xe) W' ∧ PassesOwn (model X.prog X.w) X.A X.env xe ∧ Y = X.tr pn xe
  k := F.k
  cm := F.cm
  top := F.top
  fr := F.fr
  ow := F.ow
  hX := by rintro Y ⟨X, pn, xe, h, _, _, rfl⟩; exact F.hX X h
  nd := F.nd
  hkd := by rintro Y ⟨X, pn, xe, h, _, _, rfl⟩; exact F.hkd X h
  hki := by rintro Y ⟨X, pn, xe, h, _, _, rfl⟩; exact F.hki X h
  vis := by rintro Y ⟨X, pn, xe, h, _, _, rfl⟩; exact F.vis X h
  loc := by rintro Y ⟨X, pn, xe, h, _, _, rfl⟩; exact F.loc X h
  hc := by rintro hc Y ⟨X, pn, xe, h, _, _, rfl⟩; exact F.hc hc X h
  hr := by rintro hc Y ⟨X, pn, xe, h, _, _, rfl⟩; exact F.hr hc X h
  hu := by rintro Y ⟨X, pn, xe, h, _, _, rfl⟩; exact F.hu X h
  tk := by rintro Y ⟨X, pn, xe, h, t, _, rfl⟩; exact t
  po := by rintro Y ⟨X, pn, xe, h, _, p, rfl⟩; exact p
  ht := by rintro z Y ⟨X, pn, xe, h, _, _, rfl⟩; exact F.ht z X h
def suiteF (F : Fm) (a : Addr) (cls : Value) (dd : Option Addr) : Fm where
  G := F.G
  W := fun _ _ _ _ => False
  N := F.N
  V := F.V
  L := F.L
  kd := F.kd
  Xs := fun Y => ∃ X oe pn, F.Xs X ∧ L2N.Zn cls dd oe ∧ (∃ vs, oe.data = .fields vs) ∧ Y = X.suite a ((a, oe) :: pn)
  k := F.k
  cm := false
  top := false
  fr := F.fr
  ow := F.ow
  hX := by rintro Y ⟨X, oe, pn, h, _, _, rfl⟩; exact F.hX X h
  nd := F.nd
  hkd := by rintro Y ⟨X, oe, pn, h, _, _, rfl⟩; exact F.hkd X h
  hki := by rintro Y ⟨X, oe, pn, h, _, _, rfl⟩; exact F.hki X h
  vis := by rintro Y ⟨X, oe, pn, h, _, _, rfl⟩; exact F.vis X h
  loc := by rintro Y ⟨X, oe, pn, h, _, _, rfl⟩; exact F.loc X h
  hc := by rintro hc; cases hc
  hr := by rintro hc; cases hc
  hu := by rintro Y ⟨X, oe, pn, h, _, _, rfl⟩; exact F.hu X h
  tk := by rintro Y ⟨X, oe, pn, h, t, _, rfl⟩; exact L2N.no_takes
  po := by rintro Y ⟨X, oe, pn, h, _, p, rfl⟩; exact PassesOwn.never
  ht := by rintro z; cases z
def Ctl.tryC {X Y S : Type} (c : Ctl Y S) (tab : List Bool) (h : Exc → Y → Ctl X S) : Ctl X S := match c with
  | .stk => .stk
  | .exn e x => if tab[e.c]? = some true then (match h e x with
    | .exn _ _ => .stk
    | c => c) else .stk
  | .ret d => .ret d
  | .nx s => .nx s
section
variable {F : Fm} {Γ : Gam} {X Y S J : Type} {fx : X → Gam} {fy : Y → Gam} {fs : S → Gam} {fj : J → Gam} {x0 : X} {pos : Pos} {rest body suite : List Stmt} {b₀ : Stmt}
theorem pe_nm {X : Cx} {x : Str} {v : V} {cv : Value} {pos : Pos} (hg : Gl X x) (h : X.mg x = some cv ∨ (X.mg x = none ∧ bootBuiltins x = some cv ∧ x ≠ "__name__")) (r : RelV v cv) (db : (x == ("__debug__" : Str)) = false) : PE X (.Name x pos) (tC v) := by
  rcases h with h | ⟨h, hb, hn⟩
  · exact pe_glob hg h r db
  · exact pe_bltn hg h hb r hn db
end
end Mir
namespace Mir
open PySem PySem.Spec L2
open PyProof.Rows (envOfC)
open ClX (CRead CVal tCVal pe_cval)
section
variable {F : Fm} {Γ : Gam} {a b c e o : Expr} {es : List Expr} {ma mb mc m mo me : M D} {pos apos : Pos}
def tOpS (r : L2.St → R2) (ta tb : TE) : TE := fun σ H Q => ta σ H fun x H1 => tb σ H1 fun y H2 => r σ x y H2 Q
def OpS (X : Cx) (f : Value → Value → Sem Value) (r : L2.St → R2) : Prop := ∀ (pins : List (Addr × Obj)) (s : Shared) (σ : L2.St) (H : Hp) (x y : V) (v u : Value) (Q : VK), Inv X pins σ H s → RelV x v → RelV y u → r σ x y H Q → wpAny (model X.prog X.w) X.A (f v u) (EP X pins σ Q) X.xe s
def RMS (F : Fm) (r : L2.St → R2) (f : D → D → M D) : Prop := ∀ x y vx vy σ S H Q, Ex S H → Rep F.G S vx x → Rep F.G S vy y → Po F.G (WE F.W σ) S H (KE F Q) (f x y) → r σ vx vy H Q
theorem em_opS {op : Operator} {r : L2.St → R2} {f : D → D → M D} (ho : ∀ X, F.Xs X → OpS X (binaryOp op) r) (hf : RMS F r f) (ha : EM F a Γ ma) (hb : EM F b Γ mb) : EM F (.BinOp a op b pos) Γ (b2 f ma mb) := by
  obtain ⟨ta, pa, ea⟩ := ha
  obtain ⟨tb, pb, eb⟩ := hb
  refine ⟨tOpS r ta tb, fun X hX => ⟨fun pins s σ H Q I h => ?_⟩, fun H0 σ S H Q hh p => ev2 ea eb hh p fun x y vx vy S2 H2 g rx ry q => hf x y vx vy σ S2 H2 Q g.sub rx ry q⟩
  exact wpAny_BinOp (binT (pa X hX) (pb X hX) I h fun v u s2 x y H2 I2 rx ry q => ho X hX pins s2 σ H2 x y v u Q I2 rx ry q)
def tagD : D → Option String
  | .non => some "NoneType" | .bl _ => some "bool" | .int _ => some "int" | .str _ => some "str" | .lst _ => some "list" | .tup _ => some "tuple" | .ktp _ => some "tuple"
  | _ => none
structure TyN (G : GG) (x : Str) (tb : List (String × Bool)) (ob : List (Nat × Bool)) : Prop where
  ex : ∃ (cv : Value) (v : V), (G.mg x = some cv ∨ (G.mg x = none ∧ bootBuiltins x = some cv ∧ x ≠ "__name__")) ∧ RelV v cv ∧ ClsV v cv ∧ (∀ t b, tb.lookup t = some b → PySem.W.kitOne G.K (.type t) cv = some b) ∧
    (∀ c b, ob.lookup c = some b → PySem.W.kitOne G.K (.ref (G.ca c)) cv = some b ∧ Cls G.K (G.ca c) ∧ PySem.W.findIn G.K (.ref (G.ca c)) "__class__" = some (some (.builtin "object.__class__")) ∧
      PySem.W.specialIn G.K (.builtin "object.__class__") "__get__" = some (some (.builtin "getset_descriptor.__get__")) ∧ PySem.W.takesIn G.K (.builtin "object.__class__") = some true ∧ PySem.W.mroIn G.K (G.ca c) (.type "object") = some true)
  db : (x == ("__debug__" : Str)) = false
def isiT (tb : List (String × Bool)) (d : D) : M D := match tagD d with
  | some t => (match tb.lookup t with
    | some b => .ok (.bl b)
    | none => .stk)
  | none => .stk
def isiD (tb : List (String × Bool)) (ob : List (Nat × Bool)) (d : D) : M D := match d with
  | .obj c _ => (ofOpt (ob.lookup c)).bind fun b => .ok (.bl b)
  | d => isiT tb d
theorem isiT_po {G : GG} {E : XK} {S H : Hp} {K : D → Hp → Hp → Prop} {tb : List (String × Bool)} {d : D} (p : Po G E S H K (isiT tb d)) : ∃ t b, tagD d = some t ∧ tb.lookup t = some b ∧ Po G E S H K (.ok (.bl b)) := by
  unfold isiT at p
  split at p
  · rename_i t ht
    split at p
    · rename_i b hb
      exact ⟨t, b, ht, hb, p⟩
    · exact False.elim p
  · exact False.elim p
theorem rep_ty {G : GG} {S H : Hp} {v : V} {d : D} {t : String} (e : Ex S H) (r : Rep G S v d) (h : tagD d = some t) : TyX G.K H v (.type t) := by
  cases r with
  | non => cases h; exact .base .non
  | bl b => cases h; exact .base (.bl b)
  | int b => cases h; exact .base (.int b)
  | str b => cases h; exact .base (.str b)
  | tup h1 r => cases h; exact .base (.tup (e _ _ h1))
  | lst h1 r => cases h; exact .base (.lst (e _ _ h1))
  | kt k _ =>
    cases h
    obtain ⟨o, its, n, h1, h2, _⟩ := k
    exact .kTuple h1 h2
  | _ => cases h
theorem em_isi {x : Str} {tb : List (String × Bool)} {ob : List (Nat × Bool)} {p p2 : Pos} (K : TyN F.G x tb ob) (hgi : F.kd.lookup ("isinstance" : Str) = some .globalImplicit) (hmi : F.G.mg "isinstance" = none) (hg : F.kd.lookup x = some .globalImplicit) (ha : EM F a Γ ma)
    (hst : ∀ X, F.Xs X → starEach [a, .Name x p2] X.env = [(false, eval a X.env), (false, eval (.Name x p2) X.env)] := by intros; rfl) :
    EM F (.Call (.Name "isinstance" p) [a, .Name x p2] [] pos) Γ (b1 (isiD tb ob) ma) := by
  obtain ⟨cv, vv, hnm, hrel, hcl, htb, hob⟩ := K.ex
  obtain ⟨ta, pa, ea⟩ := ha
  refine ⟨tCB (rIsi F.G.K) (tCons ta (tCons (tC vv) tNil)), fun X hX => ?_, fun H0 σ S H Q hh po => ?_⟩
  · obtain ⟨h1, h2, h3, h4, h5, h6⟩ := F.hX X hX
    have hc := call_isi (X := X)
    rw [h3] at hc
    have hst := hst X hX
    refine pe_callB hc (F.gl X hX hgi) (by rw [h4]; exact hmi) rfl (pa_cons (pa X hX) (pa_cons (pe_nm (F.gl X hX hg) (by rw [h4]; exact hnm) hrel K.db) pa_nil) (by rw [hst]; rfl)) (by decide) (by decide) (by rw [hst]; rfl) rfl
  · refine ea H0 σ S H _ hh (Po.bind po |>.imp fun d S1 H1 g1 k v r => ?_)
    by_cases hobj : ∃ c fs, d = .obj c fs
    · obtain ⟨c, fs, rfl⟩ := hobj
      cases r with
      | obj h1 h2 n r =>
        obtain ⟨b, hb, k⟩ := Po.opt (o := ob.lookup c) k
        obtain ⟨q1, q2, q3, q4, q5, q6⟩ := hob c b hb
        exact ⟨_, _, _, _, b, rfl, hcl, .base (.ins (g1.sub _ _ h1) q2 q3 q4 q5 q6), q1, k.ok g1.sub _ (.bl _)⟩
    · have e : isiD tb ob d = isiT tb d := by
        cases d with
        | obj c fs => exact absurd ⟨_, _, rfl⟩ hobj
        | _ => rfl
      rw [e] at k
      obtain ⟨t, b, ht, hb, k⟩ := isiT_po k
      exact ⟨_, _, _, _, b, rfl, hcl, rep_ty g1.sub r ht, htb _ b hb, k.ok g1.sub _ (.bl _)⟩
def strsOf : List D → Option (List Str)
  | [] => some []
  | .str x :: ds => (strsOf ds).map (x :: ·)
  | _ => none
theorem reps_strs {G : GG} {S : Hp} : ∀ {ds : List D} {vs : List V} {ys : List Str}, Reps G S vs ds → strsOf ds = some ys → vs = ys.map V.str
  | [], _, _, .nil, e => by cases e; rfl
  | d :: ds, _, _, .cons h r, e => by
    cases d with
    | str x =>
      unfold strsOf at e
      cases q : strsOf ds with
      | none => rw [q] at e; cases e
      | some zs =>
        rw [q] at e
        cases e
        cases h
        rw [reps_strs r q]
        rfl
    | _ => cases e
def b2s (f : D → D → M D) (a b : M D) : M D := a.bind fun x => match x with
  | .str z => b.bind fun y => f (.str z) y
  | _ => .stk
theorem ev2s {to te : TE} {r : V → List V → Hp → VK → Prop} {f : D → D → M D} {H0 : Hp} {σ : L2.St} {S H : Hp} {Q : VK} (eo : EvM F to Γ mo) (ee : EvM F te Γ me) (hh : Holds F.G H0 σ S H Γ) (p : Po F.G (WE F.W σ) S H (KE F Q) (b2s f mo me))
    (h : ∀ z y vy S2 H2, Grow S H S2 H2 → Rep F.G S2 vy y → Po F.G (WE F.W σ) S2 H2 (KE F Q) (f (.str z) y) → r (.str z) [vy] H2 Q) : tM1 r to te σ H Q := by
  refine eo H0 σ S H _ hh ((Po.bind p).imp fun x S1 H1 g1 q1 vx rx => ?_)
  cases x with
  | str z =>
    cases rx
    refine ⟨⟨z, rfl⟩, ee H0 σ S1 H1 _ (hh.grow g1) ((Po.bind q1).imp fun y S2 H2 g2 q2 vy ry => h z y vy S2 H2 (g1.trans g2) ry q2)⟩
  | _ => exact False.elim q1
def pyJoin : D → D → M D
  | .str a, .lst ds => (ofOpt (strsOf ds)).bind fun ys => if (ys.map (·.length)).sum + ys.length * a.length ≤ 16777216 then .ok (.str (Txt.join a ys)) else .stk
  | _, _ => .stk
theorem em_join (ho : EM F o Γ mo) (he : EM F e Γ me) (hs : ∀ X, F.Xs X → starEach [e] X.env = [(false, eval e X.env)] := by intros; rfl) (hbase : ∀ X, F.Xs X → attributeBase o "join" X.env (eval o X.env) = eval o X.env := by intros; rfl) (hline : (apos.endLine == pos.line) = true := by rfl) :
    EM F (.Call (.Attribute o "join" apos) [e] [] pos) Γ (b2s pyJoin mo me) := by
  obtain ⟨to, po, eo⟩ := ho
  obtain ⟨te, pe, ee⟩ := he
  refine ⟨_, fun X hX => (by have h := pe_join (po X hX) (pe X hX) (hs X hX) (hbase X hX) hline; rw [F.hK X hX] at h; exact h), fun H0 σ S H Q hh p => ?_⟩
  refine ev2s eo ee hh p fun a y vy S2 H2 g ry q => ?_
  cases y with
  | lst ds =>
    obtain ⟨ys, hy, q⟩ := Po.opt (o := strsOf ds) q
    obtain ⟨hl, q⟩ := Po.gate (m := M.ok (D.str (Txt.join a ys))) q
    cases ry with
    | lst h1 r =>
      rw [reps_strs r hy] at h1
      exact ⟨a, _, ys, rfl, rfl, .inl (SqL.of (g.sub _ _ h1)), hl, q.ok g.sub _ (.str _)⟩
  | _ => exact False.elim q
def pyStripC : D → D → M D
  | .str a, .str b => if a.length ≤ sizeLine then .ok (.str (Txt.stripChars a b)) else .stk
  | _, _ => .stk
theorem em_stripC (ho : EM F o Γ mo) (he : EM F e Γ me) (hs : ∀ X, F.Xs X → starEach [e] X.env = [(false, eval e X.env)] := by intros; rfl) (hbase : ∀ X, F.Xs X → attributeBase o "strip" X.env (eval o X.env) = eval o X.env := by intros; rfl) (hline : (apos.endLine == pos.line) = true := by rfl) :
    EM F (.Call (.Attribute o "strip" apos) [e] [] pos) Γ (b2s pyStripC mo me) := by
  obtain ⟨to, po, eo⟩ := ho
  obtain ⟨te, pe, ee⟩ := he
  refine ⟨_, fun X hX => pe_m1 PySem.F.slot_str_strip PySem.F.type_str_strip mt_stripChars (po X hX) (pe X hX) (hs X hX) (hbase X hX) hline, fun H0 σ S H Q hh p => ?_⟩
  refine ev2s eo ee hh p fun a y vy S2 H2 g ry q => ?_
  cases y with
  | str b =>
    obtain ⟨hl, q⟩ := Po.gate (m := M.ok (D.str (Txt.stripChars a b))) q
    cases ry
    exact ⟨a, b, rfl, rfl, hl, q.ok g.sub _ (.str _)⟩
  | _ => exact False.elim q
structure CInt (G : GG) (x f : Str) (i : Int) : Prop where
  ex : ∃ C mc u, G.mg x = some (.ref C) ∧ CRead G.K C mc ∧ CVal G.K C mc f (.int i) u
  db : (x == ("__debug__" : Str)) = false
end
end Mir
namespace Mir
open PySem PySem.Spec L2
open PyProof.Rows (envOfC)
structure DunK (G : GG) (k c : Nat) (name : Str) (m : List D → M D) : Prop where
  ex : ∃ f fd ps j, j + 1 ≤ k ∧ FnOk G.P G.w G.K G.mg G.base (L2N.CX G.P G.w) j f fd ps (spM G m) ∧ PySem.W.findIn G.K (.ref (G.ca c)) name = some (some (.ref f)) ∧ PySem.W.isFn G.K (.ref f) = true ∧ PySem.W.fnIn G.K f = true ∧ Binds G.K fd ps []
theorem DunK.mono {G : GG} {j k c : Nat} {x : Str} {m : List D → M D} (h : DunK G j c x m) (l : j ≤ k) : DunK G k c x m := by
  obtain ⟨f, fd, ps, i, hi, r⟩ := h.ex
  exact ⟨f, fd, ps, i, Nat.le_trans hi l, r⟩
section
variable {X : Cx} {CX : CXT} {pins : List (Addr × Obj)} {σ : L2.St} {H : Hp} {s : Shared} {n : Nat} {f : Addr} {fd : FuncData} {ps : List Str} {sp : Sp} {E : XK}
theorem run_atS {A : Around} {Q : VK} {us : List Value} {ws : List V} (F : FnOk X.prog X.w X.K X.mg X.base CX n f fd ps sp) (hb : Binds X.K fd ps []) (hr : Room n A) (e0 : Env0 X.prog X.w X.K X.mg X.base A X.stack s H) (hx : PassesAt CX X σ E) (I : Inv X pins σ H s) (r : Vals ws us) (h : sp ws H Q E) :
    codeAny (model X.prog X.w) A (.call (.ref f) ⟨us, []⟩) (fun r s' => match r with | .ok (.ret v) => EP X pins σ Q v s' | .ok _ => False | .error e => X.xe e s') s := by
  have hl : us.length = ps.length := by rw [← r.length]; exact F.len _ _ _ _ h
  have b := hb s us I.kIn (by rw [List.append_nil]; exact hl)
  rw [List.append_nil] at b
  refine codeAny_mono (F.run A X.stack s H ⟨us, []⟩ us ws Q E hr e0 b r h) fun r s' hq => ?_
  cases r with
  | error e => exact hx pins H s e s' I hq
  | ok fl =>
    cases fl with
    | ret u => exact I.after hq
    | next => exact False.elim hq
    | brk => exact False.elim hq
    | cont => exact False.elim hq
theorem call_atS {A : Around} {Q : VK} {us : List Value} {ws : List V} (F : FnOk X.prog X.w X.K X.mg X.base CX n f fd ps sp) (hb : Binds X.K fd ps []) (hr : Room n A) (e0 : Env0 X.prog X.w X.K X.mg X.base A X.stack s H) (hx : PassesAt CX X σ E) (I : Inv X pins σ H s) (r : Vals ws us) (h : sp ws H Q E) :
    wpAny (model X.prog X.w) A (call (.ref f) us) (EP X pins σ Q) X.xe s := wpAny_call (run_atS F hb hr e0 hx I r h)
theorem ins_J {a C dx : Addr} {fs : List (Str × V)} (I : Inv X pins σ H s) (h : H a = some (.ins C dx fs)) : ∃ ox od, PySem.W.InstAt s.heap a ox C od := by
  obtain ⟨mA, O, _⟩ := ins_get I.hok h
  obtain ⟨od, J, _⟩ := O.look
  exact ⟨_, _, J⟩
end
section
variable {F : Fm} {Γ : Gam} {X S : Type} {fx : X → Gam} {fs : S → Gam} {x0 : X} {a b c e o : Expr} {es : List Expr} {ma mb mc m mo me : M D} {pos apos : Pos} {rest : List Stmt}
theorem DunK.at {k c : Nat} {x : Str} {m : List D → M D} (K : DunK F.G F.k c x m) (X : Cx) (hX : F.Xs X) : ∃ f fd ps j, j + 1 ≤ F.k ∧ FnOk X.prog X.w X.K X.mg X.base (L2N.CX X.prog X.w) j f fd ps (spM F.G m) ∧ PySem.W.findIn X.K (.ref (F.G.ca c)) x = some (some (.ref f)) ∧ PySem.W.isFn X.K (.ref f) = true ∧ PySem.W.fnIn X.K f = true ∧ Binds X.K fd ps [] := by
  obtain ⟨f, fd, ps, j, hj, ok, h⟩ := K.ex
  obtain ⟨h1, h2, h3, h4, h5, _⟩ := F.hX X hX
  rw [← h1, ← h2, ← h3, ← h4, ← h5] at ok
  rw [← h3] at h
  exact ⟨f, fd, ps, j, hj, ok, h⟩
def negB (neg : Bool) : D → M D
  | .bl b => .ok (.bl (if neg then !b else b))
  | _ => .stk
def inO (c : Nat) (m : List D → M D) (neg : Bool) (x y : D) : M D := match y with
  | .obj c' fs => if c' = c then b1 (negB neg) (m [.obj c' fs, x]) else .stk
  | _ => .stk
abbrev FsD := List (Str × D)
def spI (G : GG) (c : Nat) (m : List D → M FsD) : Sp := fun vs H Q E => ∃ S H1 ds x dx rest, vs = .ref x :: rest ∧ H = upd (upd H1 dx (.own x)) x (.ins (G.ca c) dx []) ∧ H1 x = none ∧ H1 dx = none ∧ dx ≠ x ∧ Ex S H1 ∧ Reps G S rest ds ∧
  Po G E S H1 (fun fs S' H' => S' x = none → OwnAt G H1 S' H' x (.obj c fs) → Q .non H') (m ds)
structure MkK (G : GG) (k c : Nat) (x : Str) (m : List D → M FsD) : Prop where
  ex : ∃ f fd ps j, j + 1 ≤ k ∧ FnOk G.P G.w G.K G.mg G.base (L2N.CX G.P G.w) j f fd ps (spI G c m) ∧ G.mg x = some (.ref (G.ca c)) ∧ Mk G.K (G.ca c) f ∧ Binds G.K fd ps []
theorem MkK.mono {G : GG} {j k c : Nat} {x : Str} {m : List D → M FsD} (h : MkK G j c x m) (l : j ≤ k) : MkK G k c x m := by
  obtain ⟨f, fd, ps, i, hi, r⟩ := h.ex
  exact ⟨f, fd, ps, i, Nat.le_trans hi l, r⟩
def mkO (c : Nat) (m : List D → M FsD) (ds : List D) : M D := (m ds).bind fun fs => .ok (.obj c fs)
def tMakeS (C : Addr) (sp : Sp) (E : L2.St → XK) (t : TA) : TE := fun σ H Q => t σ H fun vs H1 => ∀ x dx, H1 x = none → H1 dx = none → dx ≠ x →
  sp (.ref x :: vs) (upd (upd H1 dx (.own x)) x (.ins C dx [])) (fun v H2 => v = .non ∧ Q (.ref x) H2) (E σ)
theorem run_makeS {X : Cx} {CX : CXT} {k : Nat} {f C : Addr} {fd : FuncData} {ps : List Str} {sp : Sp} {E : XK} {pins : List (Addr × Obj)} {σ : L2.St} {H : Hp} {s : Shared} {Q : VK} {us : List Value} {vs : List V} (M : Mk X.K C f) (F : FnOk X.prog X.w X.K X.mg X.base CX k f fd ps sp) (hr : Room (k + 1) X.A) (hb : Binds X.K fd ps [])
    (hx : PassesAt CX X σ E) (I : Inv X pins σ H s) (r : Vals vs us)
    (h : ∀ x dx, H x = none → H dx = none → dx ≠ x → sp (.ref x :: vs) (upd (upd H dx (.own x)) x (.ins C dx [])) (fun v H2 => v = .non ∧ Q (.ref x) H2) E) :
    wpAny (model X.prog X.w) X.A (call (.ref C) us) (EP X pins σ Q) X.xe s := by
  have hq := h (s.heap.objs.size + 1) s.heap.objs.size (I.hok.fresh (Nat.le_succ _)) (I.hok.fresh (Nat.le_refl _)) (Nat.ne_of_lt (Nat.lt_succ_self _))
  have I2 := Inv.made (C := C) I
  have r2 : Vals (V.ref (s.heap.objs.size + 1) :: vs) (Value.ref (s.heap.objs.size + 1) :: us) := .cons rfl r
  have hl : (Value.ref (s.heap.objs.size + 1) :: us).length = ps.length := by
    have e := r2.length
    rw [F.len _ _ _ _ hq] at e
    exact e.symm
  have b := hb _ (Value.ref (s.heap.objs.size + 1) :: us) I2.kIn (by rw [List.append_nil]; exact hl)
  rw [List.append_nil] at b
  refine wpAny_call (make_map (f := f) I.kIn M.makes M.init (beq_iff_eq.mp M.fn) (codeAny_mono (F.run _ X.stack _ _ ⟨Value.ref (s.heap.objs.size + 1) :: us, []⟩ (Value.ref (s.heap.objs.size + 1) :: us) _ _ E (hr.make C us [])
    (I2.env0.make C us []) b r2 hq) fun r s' hq' => ?_))
  cases r with
  | error e => exact hx pins _ _ e s' I2 hq'
  | ok fl =>
    cases fl with
    | ret u =>
      obtain ⟨v, H', I3, rv, ev, q3⟩ := I2.after hq'
      subst ev
      exact ⟨rv, ⟨V.ref (s.heap.objs.size + 1), H', I3, rfl, q3⟩⟩
    | next => exact False.elim hq'
    | brk => exact False.elim hq'
    | cont => exact False.elim hq'
theorem own_done {G : GG} {S H1 S' H' : Hp} {x : Addr} {c : Nat} {fs : FsD} (g : Grow S H1 S' H') (h1 : H1 x = none) (sx : S' x = none) (o : OwnAt G H1 S' H' x (.obj c fs)) : ∃ S'', Grow S H1 S'' H' ∧ Rep G S'' (.ref x) (.obj c fs) := by
  obtain ⟨dx, vs, e1, e2, e3, e4, n, r⟩ := o
  have ne : dx ≠ x := fun z => by subst z; rw [e1] at e2; cases e2
  have q1 : Ex S' (upd S' dx (.own x)) := ex_upd e3
  have q2 : Ex (upd S' dx (.own x)) (upd (upd S' dx (.own x)) x (.ins (G.ca c) dx vs)) := ex_upd (by rw [upd_ne (Ne.symm ne)]; exact sx)
  refine ⟨upd (upd S' dx (.own x)) x (.ins (G.ca c) dx vs), ⟨(g.s.trans q1).trans q2, g.h, fun a u q => ?_, fun p z1 z2 => ?_⟩, .obj upd_same (by rw [upd_ne ne, upd_same]) n ((r.mono q1).mono q2)⟩
  · by_cases za : a = x
    · subst za; rw [upd_same] at q; rw [e1]; exact q
    · rw [upd_ne za] at q
      by_cases zd : a = dx
      · subst zd; rw [upd_same] at q; rw [e2]; exact q
      · rw [upd_ne zd] at q; exact g.sub a u q
  · have n1 : p ≠ x := fun z => by subst z; exact z1.ne h1
    have n2 : p ≠ dx := fun z => by subst z; exact z1.ne e4
    rw [upd_ne n1, upd_ne n2]
    exact g.sep p z1 z2
theorem em_make {c : Nat} {x : Str} {m : List D → M FsD} {ml : M (List D)} {p : Pos} (K : MkK F.G F.k c x m) (hcm : F.cm = true) (hg : F.kd.lookup x = some .globalImplicit) (ha : AM F (e :: es) Γ ml) (hdb : (x == ("__debug__" : Str)) = false := by decide)
    (he : ∀ X, F.Xs X → starEach (e :: es) X.env = (false, eval e X.env) :: starEach es X.env := by intros; rfl) (hpl : ∀ X, F.Xs X → (backTo pos (starEach es X.env)).any (·.1) = false := by intros; rfl) : EM F (.Call (.Name x p) (e :: es) [] pos) Γ (b1 (mkO c m) ml) := by
  obtain ⟨t, q, g⟩ := ha
  refine ⟨tMakeS (F.G.ca c) (spI F.G c m) (WE F.W) t, fun X hX => ⟨fun pins s σ H Q I h => ?_⟩, fun H0 σ S H Q hh po => ?_⟩
  · obtain ⟨f, fd, ps, j, hj, ok, hm, M, hb⟩ := K.ex
    obtain ⟨h1, h2, h3, h4, h5, _⟩ := F.hX X hX
    rw [← h1, ← h2, ← h3, ← h4, ← h5] at ok
    rw [← h4] at hm
    rw [← h3] at M hb
    refine wpAny_Call_Name_kw (ld_glob I (F.gl X hX hg) hm ?_ hdb)
    refine PySem.W.callWith_K (h₀ := X.base) I.ok.mod.kin M.kp (thn ((q X hX).run pos pins s σ H _ I h) fun us s1 ⟨vs, H1, I1, r, q⟩ => ⟨I1.kIn, ?_⟩) (he X hX) (hpl X hX)
    exact run_makeS M ok ((F.hr hcm X hX).mono hj) hb (L2N.passAt (F.tk X hX) σ) I1 r q
  · refine g H0 σ S H _ hh (Po.bind po |>.imp fun ds S1 H1 g1 k vs r x dx hx hdx ne => ?_)
    refine ⟨S1, H1, ds, x, dx, vs, rfl, rfl, hx, hdx, ne, g1.sub, r, ?_⟩
    unfold mkO at k
    revert k
    cases m ds with
    | stk => exact fun k => k
    | exn e => exact fun k => k
    | ok fs =>
      intro k S2 H2 g2 sx o
      obtain ⟨S3, g3, rep⟩ := own_done g2 hx sx o
      exact ⟨rfl, k S3 H2 g3 _ rep⟩
def putFD (f : Str) (v : D) : FsD → FsD
  | [] => [(f, v)]
  | (g, x) :: r => if g = f then (g, v) :: r else (g, x) :: putFD f v r
theorem putF_rep {G : GG} {S : Hp} {f : Str} {v : V} {d : D} (h : Rep G S v d) : ∀ {vs : List (Str × V)} {fs : FsD}, vs.map (·.1) = fs.map (·.1) → Reps G S (vs.map (·.2)) (fs.map (·.2)) → (putF f v vs).map (·.1) = (putFD f d fs).map (·.1) ∧ Reps G S ((putF f v vs).map (·.2)) ((putFD f d fs).map (·.2))
  | [], [], _, _ => ⟨rfl, .cons h .nil⟩
  | (a, u) :: vs, (b, x) :: fs, n, .cons q r => by
    obtain ⟨n1, n2⟩ := List.cons.inj n
    have n1 : a = b := n1
    subst n1
    unfold putF putFD
    by_cases z : a = f
    · rw [if_pos z, if_pos z]
      exact ⟨congrArg (a :: ·) n2, .cons h r⟩
    · rw [if_neg z, if_neg z]
      obtain ⟨i1, i2⟩ := putF_rep h n2 r
      exact ⟨congrArg (a :: ·) i1, .cons q i2⟩
  | [], _ :: _, n, _ => by cases n
  | _ :: _, [], n, _ => by cases n
def fsetM (f : Str) (fs : FsD) (m : M D) : M FsD := m.bind fun y => if fs.length < 1000 then .ok (putFD f y fs) else .stk
theorem bm_fset {c : Nat} {f n : Str} {x : Addr} {ff : FsD} {p1 p2 : Pos} {k : FsD → Ctl X S} (i : Nat) (K : Fld F.G c f) (hn : F.N[i]? = some n) (hv : F.V[i]? = some true) (hΓ : Γ[i]? = some (Sl.own (.slf x c ff))) (he : EM F e Γ m) (w : Weak Γ (fx x0))
    (hr : ∀ ff', BM F rest (Γ.set i (Sl.own (.slf x c ff'))) ((k ff').out fx fs)) (hd : (n == ("__debug__" : Str)) = false := by decide) (hcd : (n == ("__classdict__" : Str)) = false := by decide)
    (hs : ∀ X, F.Xs X → swapsWith e (some (.Attribute (.Name n p1) f p2)) pos.line X.env = pure false := by intros; rfl) :
    BM F (.Assign [.Attribute (.Name n p1) f p2] e pos :: rest) Γ (((fsetM f ff m).bindC x0 k).out fx fs) := by
  obtain ⟨t, q, g⟩ := he
  refine bm_cons (t := sFld F.G.K (tVar i) t f) (fun X hX => ?_) fun S0 H0 Dn σ S H gr hh po => ?_
  · have hp := ps_fld (X := X) (pos := pos) (pos' := p2) (f := f) (ha := pe_var (i := i) (pos := p1) (by rw [F.hN X hX]; exact hn) (F.vis X hX i n hv hn) hd hcd) (q X hX) (hs X hX)
    rw [F.hK X hX] at hp
    exact hp
  · have po := opo_bind gr hh w po
    refine g H0 σ S H _ hh ((Po.bind po).imp fun y S1 H1 g1 k1 v r => ?_)
    obtain ⟨hl, k2⟩ := Po.gate (m := M.ok (putFD f y ff)) k1
    have h1 := hh.grow g1
    obtain ⟨a, ha, hs0, hh0, oa⟩ := h1.own i _ hΓ
    obtain ⟨hax, dx, vs, e1, e2, e3, e4, nn, rr⟩ := oa
    obtain ⟨gk, _, pk⟩ := Po.ok g1.sub k2
    have hlen : vs.length = ff.length := by have := congrArg List.length nn; simpa using this
    refine ⟨.ref a, ha, a, _, dx, vs, rfl, e1, K.cl, K.no, by rw [hlen]; exact hl, ?_⟩
    obtain ⟨n2, r2⟩ := putF_rep (f := f) r nn rr
    have ne : dx ≠ a := fun z => by subst z; rw [e1] at e2; cases e2
    exact (hr _).c S0 H0 Dn σ S1 _ (gk.own hs0 hh0) (h1.ownUpd (d' := .slf x c (putFD f y ff)) hΓ ha hs0 hh0 (fun b z => by rw [e1] at z; cases z) ⟨hax, dx, _, upd_same, by rw [upd_ne ne]; exact e2, e3, e4, n2, r2⟩) pk
end
def Ctl.toF {X : Type} : Ctl X FsD → M FsD
  | .stk => .stk
  | .exn e _ => .exn e
  | .ret _ => .stk
  | .nx d => .ok d
theorem init_ok {G : GG} {c : Nat} {name qual : Str} {st : Stmt} {f : Addr} {fd : FuncData} {N ps : List Str} {k : Nat} {m : List D → M FsD} (V : List Bool) (kd : List (Str × NameKind)) (Fn : Fun G.K name qual st f fd) (Sc : FnScope N ps (defScope st))
    (hv : visL N V kd = true) (hkd : (defScope st).names = kd) (har : ∀ ds, m ds ≠ .stk → ds.length + 1 = ps.length)
    (hB : ∀ x cdv A outer s H E hr ds, ds.length + 1 = ps.length → ∃ cc : Ctl Unit FsD, m ds = cc.toF ∧ BM (mkF G Sc V kd hv hkd k qual f cdv A outer s H E hr) (defBody st) (Sl.own (.slf x c []) :: (ds.map Sl.val ++ List.replicate (N.length - (ds.length + 1)) Sl.unk)) (cc.out (fun _ => []) (fun d => Sl.own (.slf x c d) :: List.replicate (N.length - 1) Sl.unk))) :
    FnOk G.P G.w G.K G.mg G.base (L2N.CX G.P G.w) (k + 1) f fd ps (spI G c m) := by
  have hpl : ps.length ≤ N.length := by have := congrArg List.length Sc.pre; rw [List.length_take] at this; omega
  refine L2N.okN Fn Sc (fun vs H Q E h => ?_) (fun cdv A outer s H vs Q E hr h => ?_)
  · obtain ⟨S, H1, ds, x, dx, rest, rfl, rfl, hx, hdx, ne, e, r, p⟩ := h
    show rest.length + 1 = _
    rw [r.length]
    exact har ds fun z => by rw [z] at p; exact p
  · obtain ⟨S, H1, ds, x, dx, rest, rfl, rfl, hx, hdx, ne, e, r, p⟩ := h
    have hl : ds.length + 1 = ps.length := har ds fun z => by rw [z] at p; exact p
    obtain ⟨cc, hc, t, ht, d⟩ := hB x cdv A outer s _ E hr ds hl
    refine ⟨t, ht _ rfl, ?_⟩
    have g1 : Grow S H1 S (upd H1 dx (.own x)) := Grow.newOwn e hdx
    have hx2 : upd H1 dx (.own x) x = none := by rw [upd_ne (Ne.symm ne)]; exact hx
    have g2 : Grow S H1 S (upd (upd H1 dx (.own x)) x (.ins (G.ca c) dx [])) := g1.trans (Grow.newOwn g1.sub hx2)
    have st0 := starts (N := N) e (.cons .non r) (by show rest.length + 1 ≤ _; rw [r.length]; omega)
    have st1 : Holds G H1 (L2.start N (.ref x :: rest)) S _ (Sl.own (.slf x c []) :: (ds.map Sl.val ++ List.replicate (N.length - (ds.length + 1)) Sl.unk)) :=
      st0.setOwn (i := 0) (p := x) (d := .slf x c []) g2 (sub_none e hx) hx ⟨rfl, dx, [], upd_same, by rw [upd_ne ne, upd_same], sub_none e hdx, hdx, rfl, .nil⟩
    refine d S H1 _ (L2.start N (.ref x :: rest)) S _ g2 st1 ?_
    rw [hc] at p
    cases cc with
    | stk => exact p
    | exn x u => exact fun cls dd σ S' H' g _ rx => p cls dd S' H' g rx
    | ret d => exact False.elim p
    | nx d' =>
      intro σ S' H' g hh
      obtain ⟨q, hq, hs, h0, rfl, oa⟩ := hh.own 0 _ rfl
      exact p S' H' g hs oa
end Mir
namespace Mir
open PySem PySem.Spec L2
open PyProof.Rows (envOfC)
def entOk : List DictEntry → List (Int × Int) → Bool
  | [], [] => true
  | e :: es, (k, v) :: r => (match e.key with | .int i _ => decide (i = k) | _ => false) && decide (e.hash = hashInt k) && (match e.val with | .int i _ => decide (i = v) | _ => false) && entOk es r
  | _, _ => false
def kdOk (K : PySem.W.Frag) (a : Addr) (kvs : List (Int × Int)) : Bool := match K.lookup a with
  | some ⟨.type t, none, .dict es _, sl⟩ => t == "dict" && sl.toList.isEmpty && entOk es.toList kvs && !(a == sysModules) && decide ((kvs.map (·.1)).Nodup)
  | _ => false
structure KdI (G : GG) (x : Str) (kvs : List (Int × Int)) : Prop where
  ex : ∃ a, G.mg x = some (.ref a) ∧ kdOk G.K a kvs = true
  db : (x == ("__debug__" : Str)) = false
theorem entOk_pairs {P : Program} {w : World} : ∀ {es : List DictEntry} {kvs : List (Int × Int)}, entOk es kvs = true → ∃ vs : List (Key × Value), Pairs (mixKind P w) es vs ∧ vs.map (·.1) = kvs.map (fun p => (Sum.inl p.1 : Key)) ∧
    (∀ e ∈ es, ∃ k, (mixKind P w).is k e.key = true ∧ e.hash = (mixKind P w).hash k) ∧ (∀ i v, kvs.lookup i = some v → ∃ t, valueAt vs (.inl i) = some (.int v t)) ∧ (∀ i, kvs.lookup i = none → valueAt vs (.inl i) = none)
  | [], [], _ => ⟨[], .nil, rfl, fun e he => absurd he (by simp), fun i v h => (by cases h), fun i _ => rfl⟩
  | e :: es, (k, v) :: r, h => by
    unfold entOk at h
    rw [Bool.and_eq_true, Bool.and_eq_true, Bool.and_eq_true] at h
    obtain ⟨⟨⟨h1, h2⟩, h3⟩, h4⟩ := h
    obtain ⟨vs, p1, p2, p3, p4, p5⟩ := entOk_pairs (P := P) (w := w) h4
    split at h1
    · rename_i i t hk
      have h1 := of_decide_eq_true h1
      subst h1
      split at h3
      · rename_i j u hv
        have h3 := of_decide_eq_true h3
        subst h3
        have kis : (mixKind P w).is (Sum.inl i) e.key = true := by rw [hk]; exact keyIs_int i t
        refine ⟨(.inl i, e.val) :: vs, .cons kis rfl p1, by simp [p2], fun e' he => ?_, fun i' v' h' => ?_, fun i' h' => ?_⟩
        · rcases List.mem_cons.mp he with z | z
          · subst z; exact ⟨.inl i, kis, of_decide_eq_true h2⟩
          · exact p3 e' z
        · rw [List.lookup_cons] at h'
          unfold valueAt
          rw [List.find?_cons]
          by_cases z : i' = i
          · subst z
            simp only [beq_self_eq_true] at h'
            cases h'
            simp only [decide_true, Option.map]
            exact ⟨u, by rw [hv]⟩
          · have zb : (i' == i) = false := by simpa using z
            rw [zb] at h'
            have zd : decide ((Sum.inl i : Key) = Sum.inl i') = false := decide_eq_false fun q => z (Sum.inl.inj q).symm
            simp only [zd]
            exact p4 i' v' h'
        · rw [List.lookup_cons] at h'
          unfold valueAt
          rw [List.find?_cons]
          by_cases z : i' = i
          · subst z
            simp only [beq_self_eq_true] at h'
            cases h'
          · have zb : (i' == i) = false := by simpa using z
            rw [zb] at h'
            have zd : decide ((Sum.inl i : Key) = Sum.inl i') = false := decide_eq_false fun q => z (Sum.inl.inj q).symm
            simp only [zd]
            exact p5 i' h'
      · cases h3
    · cases h1
  | [], _ :: _, h => by cases h
  | _ :: _, [], h => by cases h
theorem kd_dict {X : Cx} {pins : List (Addr × Obj)} {σ : L2.St} {H : Hp} {s : Shared} {a : Addr} {kvs : List (Int × Int)} (I : Inv X pins σ H s) (h : kdOk X.K a kvs = true) :
    (a == sysModules) = false ∧ ∃ vs, s.heap.DictOf (mixKind X.prog X.w) a vs ∧ (∀ i v, kvs.lookup i = some v → ∃ t, valueAt vs (.inl i) = some (.int v t)) ∧ (∀ i, kvs.lookup i = none → valueAt vs (.inl i) = none) := by
  unfold kdOk at h
  split at h
  · rename_i t es n sl ho
    simp only [Bool.and_eq_true, beq_iff_eq, Bool.not_eq_true', decide_eq_true_eq] at h
    obtain ⟨⟨⟨⟨rfl, hsl⟩, h1⟩, h2⟩, h3⟩ := h
    have hsl : sl = #[] := by
      obtain ⟨l⟩ := sl
      cases l with
      | nil => rfl
      | cons _ _ => cases hsl
    subst hsl
    obtain ⟨vs, p1, p2, p3, p4, p5⟩ := entOk_pairs (P := X.prog) (w := X.w) h1
    refine ⟨by simpa using h2, vs, ⟨_, es, n, I.kIn _ _ ho, ⟨rfl, rfl, rfl⟩, rfl, fun e he => p3 e (by simpa using he), p1, ?_⟩, p4, p5⟩
    rw [p2]
    have := h3
    rw [List.nodup_iff_pairwise_ne] at *
    rw [List.pairwise_map] at this ⊢
    exact this.imp fun q z => q (Sum.inl.inj z)
  · cases h
def kdGet (kvs : List (Int × Int)) : D → M D
  | .int i => (ofOpt (kvs.lookup i)).bind fun v => .ok (.int v)
  | _ => .stk
def kdIn (kvs : List (Int × Int)) (neg : Bool) : D → M D
  | .int i => .ok (.bl (if neg then !(kvs.lookup i).isSome else (kvs.lookup i).isSome))
  | _ => .stk
section
variable {F : Fm} {Γ : Gam} {b : Expr} {mb : M D} {x : Str} {kvs : List (Int × Int)} {pos p : Pos}
theorem em_kdIx (K : KdI F.G x kvs) (hg : F.kd.lookup x = some .globalImplicit) (hb : EM F b Γ mb) (hs : PlainIx b) : EM F (.Subscript (.Name x p) b pos) Γ (b1 (kdGet kvs) mb) := by
  obtain ⟨a, hm, hk⟩ := K.ex
  obtain ⟨tb, pb, eb⟩ := hb
  refine ⟨fun σ H Q => tb σ H fun y H1 => ∃ i v, y = .int i ∧ kvs.lookup i = some v ∧ Q (.int v) H1, fun X hX => ⟨fun pins s σ H Q I h => ?_⟩, fun H0 σ S H Q hh po => ?_⟩
  · obtain ⟨h1, h2, h3, h4, h5, h6⟩ := F.hX X hX
    refine subD_of PySem.F.slot_dict_getitem.lookup hs (ld_glob I (F.gl X hX hg) (by rw [h4]; exact hm) ?_ K.db)
    refine thn ((pb X hX).run pins s σ H _ I h) fun iv s2 ⟨y, H2, I2, ry, i, v, ey, hl, q2⟩ => ?_
    subst ey
    obtain ⟨t, rfl⟩ := ry
    obtain ⟨hd, vs, dd, g1, _⟩ := kd_dict I2 (by rw [h3]; exact hk)
    obtain ⟨t2, hv⟩ := g1 i v hl
    exact ⟨dd.typeIs, wpAny_getItem_of (knd := mixKind X.prog X.w) (k := .inl i) (keyIs_int i t) dd.mapOf hv ⟨.int v, H2, I2.tok _, ⟨t2, rfl⟩, q2⟩⟩
  · refine eb H0 σ S H _ hh ((Po.bind po).imp fun y S1 H1 g1 k1 v r => ?_)
    cases y with
    | int i =>
      obtain ⟨w, hw, k2⟩ := Po.opt (o := kvs.lookup i) k1
      cases r
      exact ⟨i, w, rfl, hw, k2.ok g1.sub _ (.int w)⟩
    | _ => exact False.elim k1
def rKdIn (K : PySem.W.Frag) (kvs : List (Int × Int)) (neg : Bool) : R2 := fun x y H Q => ∃ a i, x = .int i ∧ y = .ref a ∧ kdOk K a kvs = true ∧ Q (.bl (if neg then !(kvs.lookup i).isSome else (kvs.lookup i).isSome)) H
theorem kd_some {kvs : List (Int × Int)} {vs : List (Key × Value)} {i : Int} (g1 : ∀ i v, kvs.lookup i = some v → ∃ t, valueAt vs (.inl i) = some (.int v t)) (g2 : ∀ i, kvs.lookup i = none → valueAt vs (.inl i) = none) : (valueAt vs (.inl i : Key)).isSome = (kvs.lookup i).isSome := by
  cases q : kvs.lookup i with
  | none => rw [g2 i q]; rfl
  | some v => obtain ⟨t, e⟩ := g1 i v q; rw [e]; rfl
theorem op_kdNi {X : Cx} {kvs : List (Int × Int)} : OpR X (compareOp .NotIn) (rKdIn X.K kvs true) := by
  intro pins s σ H x y v u Q I rx ry ⟨a, i, ex, ey, hk, q⟩
  subst ex ey
  obtain ⟨t, rfl⟩ := rx
  obtain rfl : u = Value.ref a := ry
  obtain ⟨hd, vs, dd, g1, g2⟩ := kd_dict I hk
  refine wpAny_notIn_of (knd := mixKind X.prog X.w) (k := .inl i) (keyIs_int i t) hd dd.mapOf ?_
  rw [kd_some g1 g2]
  exact ⟨.bl _, H, I.tok _, rfl, q⟩
theorem tm_kdC {e : Expr} {me : M D} {op : CmpOp} {neg : Bool} (ho : ∀ X, F.Xs X → OpR X (compareOp op) (rKdIn F.G.K kvs neg)) (K : KdI F.G x kvs) (hg : F.kd.lookup x = some .globalImplicit) (he : EM F e Γ me) (hm : behindInMarks op (.Name x p) = false) :
    TM F (.Compare e [op] [.Name x p] pos) Γ (b1 isB (b1 (kdIn kvs neg) me)) := by
  obtain ⟨a, hma, hk⟩ := K.ex
  obtain ⟨t, pt, f⟩ := he
  refine ⟨tTest (tOp (rKdIn F.G.K kvs neg) t (tC (.ref a))), fun X hX => ?_, fun H0 σ S H Q hh po => ?_⟩
  · obtain ⟨h1, h2, h3, h4, h5, h6⟩ := F.hX X hX
    exact pt_cmpR (ho X hX) (pt X hX) (pe_glob (F.gl X hX hg) (by rw [h4]; exact hma) rfl K.db) hm
  · refine f H0 σ S H _ hh ((Po.bind (Po.bind po)).imp fun y S1 H1 g1 k1 v r => ?_)
    cases y with
    | int i =>
      cases r
      have k2 : Po F.G (WE F.W σ) S1 H1 (KT Q) (.ok (if neg then !(kvs.lookup i).isSome else (kvs.lookup i).isSome)) := Po.ok (a := D.bl (if neg then !(kvs.lookup i).isSome else (kvs.lookup i).isSome)) g1.sub k1
      exact ⟨a, i, rfl, rfl, hk, _, rfl, k2.ok g1.sub⟩
    | _ => exact False.elim k1
theorem ok_kdn {kvs : List (Int × Int)} (X : Cx) (hX : F.Xs X) : OpR X (compareOp .NotIn) (rKdIn F.G.K kvs true) := by
  have h := op_kdNi (X := X) (kvs := kvs)
  rw [F.hK X hX] at h
  exact h
end
end Mir
namespace Mir
open PySem PySem.Spec L2
open PyProof.Rows (envOfC)
def swp (T : Hp) (p : Addr) (o : HO) : Hp := fun a => if a = p then (match T p with | none => none | some _ => some o) else T a
theorem swp_ne {T : Hp} {p a : Addr} {o : HO} (h : a ≠ p) : swp T p o a = T a := by unfold swp; rw [if_neg h]
theorem swp_at {T : Hp} {p : Addr} {o u : HO} (h : T p = some u) : swp T p o p = some o := by unfold swp; rw [if_pos rfl, h]
theorem swp_non {T : Hp} {p a : Addr} {o : HO} (h : T a = none) : swp T p o a = none := by
  unfold swp
  split
  · rename_i e; subst e; rw [h]
  · exact h
def isDic : HO → Bool
  | .dT _ => true
  | .dK _ => true
  | _ => false
def DicAt (S : Hp) (p : Addr) (u : HO) : Prop := S p = some u ∨ ∃ od, S p = some (.frz od u)
theorem DicAt.swp {S : Hp} {p : Addr} {u o : HO} (h : DicAt S p u) (ho : o = u ∨ ∃ od, o = .frz od u) : DicAt (swp S p o) p u := by
  have e : Mir.swp S p o p = some o := by rcases h with h | ⟨od, h⟩ <;> exact swp_at h
  rcases ho with rfl | ⟨od, rfl⟩
  · exact .inl e
  · exact .inr ⟨od, e⟩
theorem rd_swp {S : Hp} {p q : Addr} {u o x : HO} (hu : isDic u = true) (h : DicAt S p u) (ho : o = u ∨ ∃ od, o = .frz od u) (hx : ∀ od y, x ≠ .frz od y) (r : Rd S q x) : Rd (swp S p o) q x := by
  by_cases z : q = p
  · subst z
    have ex : x = u := by
      rcases r with r | ⟨ob, r⟩
      · rcases h with h | ⟨od, h⟩
        · rw [h] at r; cases r; rfl
        · rw [h] at r; cases r; exact absurd rfl (hx _ _)
      · rcases h with h | ⟨od, h⟩
        · rw [h] at r; cases r; cases hu
        · rw [h] at r; cases r; rfl
    subst ex
    exact (h.swp ho)
  · rcases r with r | ⟨ob, r⟩
    · exact .inl (by rw [swp_ne z]; exact r)
    · exact .inr ⟨ob, by rw [swp_ne z]; exact r⟩
theorem off_dic {S : Hp} {p q : Addr} {u x : HO} (hu : isDic u = true) (h : DicAt S p u) (hx : isDic x = false) (hf : ∀ od y, x ≠ .frz od y) (e : S q = some x) : q ≠ p := fun z => by
  subst z
  rcases h with h | ⟨od, h⟩
  · rw [h] at e; cases e; rw [hu] at hx; cases hx
  · rw [h] at e; cases e; exact hf _ _ rfl
section
variable {G : GG} {S : Hp} {p : Addr} {u o : HO}
mutual
theorem Rep.swp (hu : isDic u = true) (h : DicAt S p u) (ho : o = u ∨ ∃ od, o = .frz od u) : ∀ {v : V} {d : D}, Rep G S v d → Rep G (Mir.swp S p o) v d
  | _, _, .non => .non
  | _, _, .bl b => .bl b
  | _, _, .int i => .int i
  | _, _, .str x => .str x
  | _, _, .adr a => .adr a
  | _, _, .kt k r => .kt k r
  | _, _, .tup e r => .tup (by rw [swp_ne (off_dic hu h rfl (fun _ _ z => by cases z) e)]; exact e) (Reps.swp hu h ho r)
  | _, _, .lst e r => .lst (by rw [swp_ne (off_dic hu h rfl (fun _ _ z => by cases z) e)]; exact e) (Reps.swp hu h ho r)
  | _, _, .scr e => .scr (e.elim (fun e => .inl (rd_swp hu h ho (fun _ _ z => by cases z) e)) .inr)
  | _, _, .dct e n r => .dct (rd_swp hu h ho (fun _ _ z => by cases z) e) n (Reps.swp hu h ho r)
  | _, _, .dks e n r => .dks (rd_swp hu h ho (fun _ _ z => by cases z) e) n (Reps.swp hu h ho r)
  | _, _, .obj e k n r => .obj (by rw [swp_ne (off_dic hu h rfl (fun _ _ z => by cases z) e)]; exact e) (by rw [swp_ne (off_dic hu h rfl (fun _ _ z => by cases z) k)]; exact k) n (Reps.swp hu h ho r)
  | _, _, .slf e k n r => .slf (by rw [swp_ne (off_dic hu h rfl (fun _ _ z => by cases z) e)]; exact e) (by rw [swp_ne (off_dic hu h rfl (fun _ _ z => by cases z) k)]; exact k) n (Reps.swp hu h ho r)
theorem Reps.swp (hu : isDic u = true) (h : DicAt S p u) (ho : o = u ∨ ∃ od, o = .frz od u) : ∀ {vs : List V} {ds : List D}, Reps G S vs ds → Reps G (Mir.swp S p o) vs ds
  | _, _, .nil => .nil
  | _, _, .cons e r => .cons (Rep.swp hu h ho e) (Reps.swp hu h ho r)
end
theorem ex_swp {S H : Hp} (e : Ex S H) : Ex (swp S p o) (swp H p o) := fun a x q => by
  by_cases z : a = p
  · subst z
    cases w : S a with
    | none => rw [swp_non w] at q; cases q
    | some y => rw [swp_at w] at q; rw [swp_at (e a y w)]; exact q
  · rw [swp_ne z] at q ⊢
    exact e a x q
theorem OwnAt.swp {H0 H : Hp} {q : Addr} {d : D} (hu : isDic u = true) (h : DicAt S p u) (hH : DicAt H p u) (ho : o = u ∨ ∃ od, o = .frz od u) (hq : q ≠ p) (w : OwnAt G H0 S H q d) : OwnAt G (Mir.swp H0 p o) (Mir.swp S p o) (Mir.swp H p o) q d := by
  have ne : ∀ {a : Addr}, H a = some (.own q) → a ≠ p := fun {a} e => off_dic hu hH rfl (fun _ _ z => by cases z) e
  cases d with
  | lst ds => obtain ⟨vs, e, r⟩ := w; exact ⟨vs, by rw [swp_ne hq]; exact e, r.swp hu h ho⟩
  | dct ds => obtain ⟨vs, e, n, r⟩ := w; exact ⟨vs, by rw [swp_ne hq]; exact e, n, r.swp hu h ho⟩
  | dks ds => obtain ⟨vs, e, n, r⟩ := w; exact ⟨vs, by rw [swp_ne hq]; exact e, n, r.swp hu h ho⟩
  | obj c fs => obtain ⟨dx, vs, e, e2, e3, e4, n, r⟩ := w; exact ⟨dx, vs, by rw [swp_ne hq]; exact e, by rw [swp_ne (ne e2)]; exact e2, swp_non e3, swp_non e4, n, r.swp hu h ho⟩
  | slf a c fs => obtain ⟨hp, dx, vs, e, e2, e3, e4, n, r⟩ := w; exact ⟨hp, dx, vs, by rw [swp_ne hq]; exact e, by rw [swp_ne (ne e2)]; exact e2, swp_non e3, swp_non e4, n, r.swp hu h ho⟩
  | _ => exact False.elim w
theorem Holds.swp {H0 H : Hp} {σ : L2.St} {Γ : Gam} (hu : isDic u = true) (h : DicAt S p u) (ho : o = u ∨ ∃ od, o = .frz od u) (w : Holds G H0 σ S H Γ) : Holds G (Mir.swp H0 p o) σ (Mir.swp S p o) (Mir.swp H p o) Γ where
  ex := ex_swp w.ex
  e0 := ex_swp w.e0
  len := w.len
  val := fun i d e => let ⟨v, a, b⟩ := w.val i d e; ⟨v, a, b.swp hu h ho⟩
  own := fun i d e => by
    obtain ⟨q, a, b, c, oa⟩ := w.own i d e
    have hq : q ≠ p := fun z => by subst z; rcases h with h | ⟨od, h⟩ <;> (rw [h] at b; cases b)
    exact ⟨q, a, swp_non b, swp_non c, oa.swp hu h (h.imp (w.ex _ _) fun ⟨od, e⟩ => ⟨od, w.ex _ _ e⟩) ho hq⟩
  dis := w.dis
  ref := fun i a e => ⟨(w.ref i a e).1, fun dd fs z => let ⟨vs, q, n, r⟩ := (w.ref i a e).2 dd fs z; ⟨vs, by rw [swp_ne (off_dic hu h rfl (fun _ _ z => by cases z) q)]; exact q, n, r.swp hu h ho⟩⟩
end
section
variable {F : Fm} {Γ : Gam} {X Y S J : Type} {fx : X → Gam} {fy : Y → Gam} {fs : S → Gam} {fj : J → Gam} {x0 : X} {pos : Pos} {rest body : List Stmt}
end
end Mir
namespace Mir
open PySem PySem.Spec L2
open PyProof.Rows (envOfC)
def arF1 (c : D → Ctl Unit FsD) : List D → M FsD
  | [a] => (c a).toF
  | _ => .stk
theorem arF1_len {c : D → Ctl Unit FsD} (ds : List D) (h : arF1 c ds ≠ .stk) : ds.length = 1 := by
  unfold arF1 at h
  split at h
  · rfl
  · exact absurd rfl h
end Mir
namespace Mir
open PySem PySem.Spec L2
open PyProof.Rows (envOfC)
def SitP (it : Addr) (x : Str) (h : Heap) : Prop := ∃ ty t, (ty = "str_ascii_iterator" ∨ ty = "str_iterator") ∧ h.IsStrIter it ty x t 0
def SitO (it : Addr) (x : Str) : HO := .ext (SitP it x)
def spIt (G : GG) (c : Nat) (f : Str) : Sp := fun vs H Q _ => ∃ a dx fs x, vs = [.ref a] ∧ H a = some (.ins (G.ca c) dx fs) ∧ fs.lookup f = some (.str x) ∧ ∀ it, H it = none → (∀ b u, H b = some u → b < it) → Q (.ref it) (upd H it (SitO it x))
structure ItS (K : PySem.W.Frag) (C fi : Addr) : Prop where
  it : PySem.W.findIn K (.ref C) "__iter__" = some (some (.ref fi))
  itF : PySem.W.isFn K (.ref fi) = true
  nolen : PySem.W.findIn K (.ref C) "__len__" = some none
  nohint : PySem.W.findIn K (.ref C) "__length_hint__" = some none
section
variable {X : Cx} {pins : List (Addr × Obj)} {σ : L2.St} {H : Hp} {s : Shared} {G : GG} {c n : Nat} {f : Str} {fi a q it : Addr} {fdI : FuncData} {psI : List Str}
end
end Mir
namespace Mir
open PySem PySem.Spec L2
open PyProof.Rows (envOfC)
structure ItK (G : GG) (k c : Nat) (f : Str) : Prop where
  ex : ∃ fi fd ps j, j + 2 ≤ k ∧ FnOk G.P G.w G.K G.mg G.base (L2N.CX G.P G.w) j fi fd ps (spIt G c f) ∧ ItS G.K (G.ca c) fi ∧ Binds G.K fd ps []
theorem ItK.mono {G : GG} {j k c : Nat} {f : Str} (h : ItK G j c f) (l : j ≤ k) : ItK G k c f := by
  obtain ⟨fi, fd, ps, i, hi, r⟩ := h.ex
  exact ⟨fi, fd, ps, i, Nat.le_trans hi l, r⟩
end Mir
namespace Mir
open PySem PySem.Spec L2
open PyProof.Rows (envOfC)
section
variable {K : PySem.W.Frag} {C D : Addr}
def insB (K : PySem.W.Frag) (C : Addr) : Bool := PySem.W.plainGet K C Str.empty && PySem.W.hasDictIn K C && PySem.W.plainOver K C && (PySem.W.findIn K (.ref C) "__setattr__" == some (some (.builtin "object.__setattr__"))) &&
  (PySem.W.findIn K (.ref C) "__class__" == some (some (.builtin "object.__class__"))) && (PySem.W.specialIn K (.builtin "object.__class__") "__get__" == some (some (.builtin "getset_descriptor.__get__"))) && (PySem.W.takesIn K (.builtin "object.__class__") == some true) && (PySem.W.mroIn K C (.type "object") == some true)
theorem insB_ok (h : insB K C = true) : Cls K C ∧ PySem.W.findIn K (.ref C) "__class__" = some (some (.builtin "object.__class__")) ∧
      PySem.W.specialIn K (.builtin "object.__class__") "__get__" = some (some (.builtin "getset_descriptor.__get__")) ∧ PySem.W.takesIn K (.builtin "object.__class__") = some true ∧ PySem.W.mroIn K C (.type "object") = some true := by
  unfold insB at h
  simp only [Bool.and_eq_true, beq_iff_eq] at h
  obtain ⟨⟨⟨⟨⟨⟨⟨a, b⟩, c⟩, d⟩, e⟩, f⟩, g⟩, i⟩ := h
  exact ⟨⟨a, b, c, d⟩, e, f, g, i⟩
def xcB (K : PySem.W.Frag) (es : List Value) (cv : Value) (tab : List Bool) : Bool := (es.zip tab).all fun p => decide (PySem.W.exmOne K p.1 cv = some p.2) && decide (PySem.W.kitOne K p.1 cv = some p.2)
theorem xcB_ok {es : List Value} {cv : Value} {tab : List Bool} (h : xcB K es cv tab = true) {c : Nat} {b : Bool} {e : Value} (he : es[c]? = some e) (hb : tab[c]? = some b) : PySem.W.exmOne K e cv = some b ∧ PySem.W.kitOne K e cv = some b := by
  have hz : (es.zip tab)[c]? = some (e, b) := by rw [List.getElem?_zip_eq_some]; exact ⟨he, hb⟩
  have := List.all_eq_true.mp h (e, b) (List.mem_of_getElem? hz)
  simpa using this
def ktB (K : PySem.W.Frag) (ca : Nat → Addr) (cv : Value) (tb : List (String × Bool)) (ob : List (Nat × Bool)) : Bool := (tb.all fun p => decide (PySem.W.kitOne K (.type p.1) cv = some p.2)) && ob.all fun p => decide (PySem.W.kitOne K (.ref (ca p.1)) cv = some p.2) && insB K (ca p.1)
theorem lookup_mem {α β : Type} [BEq α] [LawfulBEq α] : ∀ {l : List (α × β)} {a : α} {b : β}, l.lookup a = some b → (a, b) ∈ l
  | [], _, _, h => by cases h
  | (x, y) :: r, a, b, h => by
    rw [List.lookup_cons] at h
    by_cases q : a == x
    · simp only [q] at h
      cases h
      rw [eq_of_beq q]
      exact List.mem_cons_self
    · have q : (a == x) = false := by simpa using q
      rw [q] at h
      exact List.mem_cons_of_mem _ (lookup_mem h)
end
theorem tyN_mk {G : GG} {x : Str} {tb : List (String × Bool)} {ob : List (Nat × Bool)} {cv : Value} {v : V} (h : G.mg x = some cv ∨ (G.mg x = none ∧ bootBuiltins x = some cv ∧ x ≠ "__name__")) (r : RelV v cv) (k : ClsV v cv) (hk : ktB G.K G.ca cv tb ob = true) (db : (x == ("__debug__" : Str)) = false) : TyN G x tb ob := by
  unfold ktB at hk
  rw [Bool.and_eq_true] at hk
  refine ⟨⟨cv, v, h, r, k, fun t b hl => ?_, fun c b hl => ?_⟩, db⟩
  · simpa using List.all_eq_true.mp hk.1 (t, b) (lookup_mem hl)
  · have := List.all_eq_true.mp hk.2 (c, b) (lookup_mem hl)
    rw [Bool.and_eq_true] at this
    exact ⟨by simpa using this.1, insB_ok this.2⟩
theorem xcN_mk {G : GG} {x : Str} {tab : List Bool} {es : List Value} {cv : Value} {v : V} (h : G.mg x = some cv ∨ (G.mg x = none ∧ bootBuiltins x = some cv ∧ x ≠ "__name__")) (r : RelV v cv) (u : ∀ u, RelV v u → u = cv) (hx : ∀ c b, tab[c]? = some b → es[c]? = some (G.xc c)) (hk : xcB G.K es cv tab = true) (db : (x == ("__debug__" : Str)) = false) : XcN G x tab :=
  ⟨⟨cv, v, h, r, u, fun c b hb => xcB_ok hk (hx c b hb) hb⟩, db⟩
theorem kn_mk {G : GG} {lev : Nat} {x : Str} {m : List D → M D} {f : Addr} {fd : FuncData} {ps : List Str} (ok : FnOk G.P G.w G.K G.mg G.base (L2N.CX G.P G.w) lev f fd ps (spM G m)) (hm : G.mg x = some (.ref f)) (hk : PySem.W.keepIn G.K (.ref f) = true) (hb : Binds G.K fd ps []) : Kn G lev x m := ⟨f, fd, ps, lev, Nat.le_refl _, ok, hm, hk, hb⟩
def spLaw (K : PySem.W.Frag) (m : List D → M D) : Sp := fun vs H Q _ => ∃ (a : Addr) (ns : List Int), vs = [.ref a] ∧ SqL K H a (ns.map V.int) ∧ m [.scr ns] = .ok (.bl true) ∧ ∀ H', Q (.bl true) H'
theorem law_imp {G : GG} {m : List D → M D} {vs : List V} {H : Hp} {Q : VK} {E : XK} (h : spLaw G.K m vs H Q E) : spM G m vs H Q E := by
  obtain ⟨a, ns, rfl, hS, hm, q⟩ := h
  refine ⟨H, [.scr ns], Same.refl _, .cons (.scr hS) .nil, ?_⟩
  rw [hm]
  intro S' H' g v r
  cases r
  exact q H'
end Mir
namespace Mir
open PySem PySem.Spec L2
open PyProof.Rows (envOfC)
section
variable {F : Fm} {Γ : Gam} {X S : Type} {fx : X → Gam} {fs : S → Gam} {x0 : X} {a b c e o : Expr} {es : List Expr} {ma mb mc m mo me : M D} {pos apos : Pos} {rest : List Stmt}
end
end Mir
namespace Mir
open PySem PySem.Spec L2
open PyProof.Rows (envOfC)
def intsOf : List D → Option (List Int)
  | [] => some []
  | .int x :: ds => (intsOf ds).map (x :: ·)
  | _ => none
theorem reps_intsOf {G : GG} {S : Hp} : ∀ {ds : List D} {vs : List V} {ys : List Int}, Reps G S vs ds → intsOf ds = some ys → vs = ys.map V.int
  | [], _, _, .nil, e => by cases e; rfl
  | d :: ds, _, _, .cons h r, e => by
    cases d with
    | int x =>
      unfold intsOf at e
      cases q : intsOf ds with
      | none => rw [q] at e; cases e
      | some zs =>
        rw [q] at e
        cases e
        cases h
        rw [reps_intsOf r q]
        rfl
    | _ => cases e
theorem reps_of_ints {G : GG} {S : Hp} : ∀ ys : List Int, Reps G S (ys.map V.int) (ys.map D.int)
  | [] => .nil
  | y :: ys => .cons (.int y) (reps_of_ints ys)
def insI (x : Int) : List Int → List Int
  | [] => [x]
  | y :: l => if x ≤ y then x :: y :: l else y :: insI x l
def isortI : List Int → List Int
  | [] => []
  | x :: l => insI x (isortI l)
theorem insI_perm (x : Int) : ∀ l : List Int, (insI x l).Perm (x :: l)
  | [] => .refl _
  | y :: l => by
    unfold insI
    split
    · exact .refl _
    · exact ((insI_perm x l).cons y).trans (.swap x y l)
theorem isortI_perm : ∀ l : List Int, (isortI l).Perm l
  | [] => .refl _
  | x :: l => (insI_perm x _).trans ((isortI_perm l).cons x)
theorem insI_sorted (x : Int) : ∀ l : List Int, l.Pairwise (· ≤ ·) → (insI x l).Pairwise (· ≤ ·)
  | [], _ => by simp [insI]
  | y :: l, h => by
    unfold insI
    obtain ⟨h1, h2⟩ := List.pairwise_cons.mp h
    split
    · rename_i hxy
      refine List.pairwise_cons.mpr ⟨fun z hz => ?_, h⟩
      rcases List.mem_cons.mp hz with rfl | hz
      · exact hxy
      · exact Int.le_trans hxy (h1 z hz)
    · rename_i hxy
      refine List.pairwise_cons.mpr ⟨fun z hz => ?_, insI_sorted x l h2⟩
      rcases List.mem_cons.mp ((insI_perm x l).mem_iff.mp hz) with rfl | hz
      · omega
      · exact h1 z hz
theorem isortI_sorted : ∀ l : List Int, (isortI l).Pairwise (· ≤ ·)
  | [] => .nil
  | x :: l => insI_sorted x _ (isortI_sorted l)
theorem sorted_uniq {a b : List Int} (p : a.Perm b) (h1 : a.Pairwise (· ≤ ·)) (h2 : b.Pairwise (· ≤ ·)) : a = b := p.eq_of_pairwise (le := fun x y : Int => decide (x ≤ y)) (fun x y _ _ h k => by have := of_decide_eq_true h; have := of_decide_eq_true k; omega) (h1.imp fun h => decide_eq_true h) (h2.imp fun h => decide_eq_true h)
def pySorted : List D → M D
  | [.lst ds] => (ofOpt (intsOf ds)).bind fun ns => .ok (.lst ((isortI ns).map D.int))
  | _ => .stk
section
variable {F : Fm} {Γ : Gam} {X S : Type} {fx : X → Gam} {fs : S → Gam} {x0 : X} {a b c e o : Expr} {es : List Expr} {ma mb mc m mo me : M D} {pos apos : Pos} {rest : List Stmt}
theorem cm_sorted : CM F (rSortedI F.G.K) pySorted := by
  intro ds vs E S H Q ex r p
  match ds, r, p with
  | [.lst xs], r, p =>
    obtain ⟨v, rfl, h⟩ := reps1 r
    obtain ⟨ns, hn, p⟩ := Po.opt (o := intsOf xs) p
    cases h with
    | lst h r =>
      rw [reps_intsOf r hn] at h
      refine ⟨_, ns, rfl, SqL.of (ex _ _ h), fun ns' q pm so hq => ?_⟩
      have e : ns' = isortI ns := sorted_uniq (pm.trans (isortI_perm ns).symm) so (isortI_sorted ns)
      subst e
      exact ev_newL (G := F.G) ex (reps_of_ints _) p q hq
theorem em_sorted {p : Pos} {ml : M (List D)} (hg : F.kd.lookup ("sorted" : Str) = some NameKind.globalImplicit) (hm : F.G.mg "sorted" = none) (ha : AM F (e :: es) Γ ml)
    (he : ∀ X, F.Xs X → starEach (e :: es) X.env = (false, eval e X.env) :: starEach es X.env := by intros; rfl) (hpl : ∀ X, F.Xs X → (backTo pos (starEach es X.env)).any (·.1) = false := by intros; rfl) : EM F (.Call (.Name "sorted" p) (e :: es) [] pos) Γ (b1 pySorted ml) :=
  em_callB (r := rSortedI F.G.K) (fun X hX => by have h := cr_sortedI (X := X); rw [F.hK X hX] at h; exact h) cm_sorted hg hm (by decide +kernel) ha (by decide) (by decide) he hpl
structure MethK (G : GG) (k c : Nat) (name : Str) (m : List D → M D) : Prop where
  ex : ∃ f fd ps j, j ≤ k ∧ FnOk G.P G.w G.K G.mg G.base (L2N.CX G.P G.w) j f fd ps (spM G m) ∧ Meth G.K (G.ca c) name f ∧ Cls G.K (G.ca c) ∧ Binds G.K fd ps []
theorem MethK.mono {G : GG} {j k c : Nat} {x : Str} {m : List D → M D} (h : MethK G j c x m) (l : j ≤ k) : MethK G k c x m := by
  obtain ⟨f, fd, ps, i, hi, r⟩ := h.ex
  exact ⟨f, fd, ps, i, Nat.le_trans hi l, r⟩
end
end Mir
namespace Mir
open PySem PySem.Spec L2
open PyProof.Rows (envOfC)
theorem Reps.erase {G : GG} {S : Hp} : ∀ {vs : List V} {ds : List D} (k : Nat), Reps G S vs ds → Reps G S (vs.eraseIdx k) (ds.eraseIdx k)
  | _, _, _, .nil => .nil
  | _, _, 0, .cons _ r => r
  | _, _, k + 1, .cons h r => .cons h (Reps.erase k r)
def appPopM (d1 d2 : D) (m : M D) : M (D × D) := match d1, d2 with
  | .lst xs, .lst ys => m.bind fun z => match z with
    | .int i => if -(2 ^ 63) ≤ i ∧ i < 2 ^ 63 ∧ xs.length < sizeLine then (ofOpt (seqIndex? i ys.length)).bind fun k => (ofOpt ys[k]?).bind fun y => .ok (.lst (xs ++ [y]), .lst (ys.eraseIdx k)) else .stk
    | _ => .stk
  | _, _ => .stk
section
variable {F : Fm} {Γ : Gam} {X S : Type} {fx : X → Gam} {fs : S → Gam} {x0 : X} {a b c e o : Expr} {es : List Expr} {ma mb mc m mo me : M D} {pos apos : Pos} {rest : List Stmt}
theorem bm_appPop (i j : Nat) {ce : Expr} {d1 d2 : D} {pos' : Pos} {k : D × D → Ctl X S} (hij : i ≠ j) (hΓ : Γ[i]? = some (Sl.own d1)) (hΓ2 : Γ[j]? = some (Sl.own d2)) (he : EM F e Γ m) (w : Weak Γ (fx x0))
    (hr : ∀ p : D × D, BM F rest ((Γ.set j (Sl.own p.2)).set i (Sl.own p.1)) ((k p).out fx fs))
    (hp : ∀ t, (∀ Y, F.Xs Y → PE Y e t) → ∀ Y, F.Xs Y → PE Y ce (tBM Y.K "list" rAppend (tVar i) (tCons (tBM Y.K "list" rPopAt (tVar j) (tCons t tNil)) tNil)))
    (hs : ∀ X, F.Xs X → swapsWith ce none pos'.line X.env = pure false := by intros; rfl) :
    BM F (.Expr ce pos' :: rest) Γ (((appPopM d1 d2 m).bindC x0 k).out fx fs) := by
  obtain ⟨t, q, f⟩ := he
  have hp : ∀ X, F.Xs X → PE X ce (tBM F.G.K "list" rAppend (tVar i) (tCons (tBM F.G.K "list" rPopAt (tVar j) (tCons t tNil)) tNil)) := fun X hX => by
    have h := hp t q X hX
    rw [F.hK X hX] at h
    exact h
  refine bm_cons (fun X hX => ps_expr (hp X hX) (hs X hX)) fun S0 H0 Dn σ S H g hh po => ?_
  obtain ⟨r, hσ, hS, h0, oa⟩ := hh.own i d1 hΓ
  obtain ⟨r2, hσ2, hS2, h02, oa2⟩ := hh.own j d2 hΓ2
  have hne : r ≠ r2 := fun z => by
    subst z
    exact hij (hh.dis i j _ _ _ hΓ hΓ2 hσ hσ2)
  cases d1 with
  | lst xs =>
    cases d2 with
    | lst ys =>
      obtain ⟨vs, hH, rs⟩ := oa
      obtain ⟨us, hH2, ru⟩ := oa2
      refine ⟨.ref r, hσ, .inl ⟨rfl, _, SqL.of hH⟩, .ref r2, hσ2, .inl ⟨rfl, _, SqL.of hH2⟩, ?_⟩
      have pb := opo_bind g hh w po
      refine f H0 σ S H _ hh ((Po.bind pb).imp fun z S1 H1 g1 q1 v rv => ?_)
      cases z with
      | int zi =>
        obtain ⟨⟨b1, b2, hl⟩, q1⟩ := Po.gate (m := (ofOpt (seqIndex? zi ys.length)).bind fun k => (ofOpt ys[k]?).bind fun y => M.ok (D.lst (xs ++ [y]), D.lst (ys.eraseIdx k))) q1
        obtain ⟨kk, hk, q1⟩ := Po.opt (o := seqIndex? zi ys.length) q1
        obtain ⟨y, hy, q1⟩ := Po.opt (o := ys[kk]?) q1
        obtain ⟨g2, h2, p2⟩ := q1.ok g1.sub
        cases rv
        have hH1 := g1.h _ _ hH
        have hH21 := g1.h _ _ hH2
        have hS1 := g1.sep r ⟨_, hH, fun _ z => by cases z⟩ hS
        have hS21 := g1.sep r2 ⟨_, hH2, fun _ z => by cases z⟩ hS2
        have ru1 := ru.mono g1.s
        obtain ⟨w', hw', rw'⟩ := ru1.get hy
        refine ⟨r2, us, zi, kk, w', rfl, rfl, hH21, b1, b2, by rw [ru1.length]; exact hk, hw', ?_⟩
        have hHr : upd H1 r2 (.lst (us.eraseIdx kk)) r = some (.lst vs) := by rw [upd_ne hne]; exact hH1
        refine ⟨r, vs, w', rfl, rfl, hHr, by rw [rs.length]; exact hl, ?_⟩
        have h3 := h2.ownUpd (d' := .lst (ys.eraseIdx kk)) hΓ2 hσ2 hS21 h02 (fun b z => by rw [hH21] at z; cases z) ⟨_, upd_same, Reps.erase kk ru1⟩
        have hΓ' : (Γ.set j (Sl.own (.lst (ys.eraseIdx kk))))[i]? = some (Sl.own (.lst xs)) := by rw [List.getElem?_set_ne (Ne.symm hij)]; exact hΓ
        have g3 := g2.own (o := .lst (us.eraseIdx kk)) hS21 h02
        exact (hr (.lst (xs ++ [y]), .lst (ys.eraseIdx kk))).c S0 H0 Dn σ S1 _ (g3.own hS1 h0) (h3.ownUpd (d' := .lst (xs ++ [y])) hΓ' hσ hS1 h0 (fun b z => by rw [hHr] at z; cases z) ⟨_, upd_same, (rs.mono g1.s).append (.cons rw' .nil)⟩) p2
      | _ => exact False.elim q1
    | _ => exact False.elim po
  | _ => exact False.elim po
theorem bm_lit {sts : List Stmt} {o : Out} (Γ' : Gam) (e : Γ = Γ') (h : BM F sts Γ' o) : BM F sts Γ o := e ▸ h
end
end Mir
namespace Mir
open PySem PySem.Spec L2
open PyProof.Rows (envOfC)
section
variable {F : Fm} {Γ : Gam} {scope : Scope} {own : List (Str × Nat)} {V L : List Bool} {kd : List (Str × NameKind)} {elt tg iter : Expr} {ifs : List Expr} {pos : Pos} {mi : M (List D)} {f : D → M (List D)} {tf : D → Gam → Option Gam}
theorem evf_lc (B : BlkF F scope own V L kd) (hi : IM F tg iter Γ mi) {g : TG} (hg : ∀ H0 σ S H v d Γ Γ' (Q : L2.St → Hp → Prop), Holds F.G H0 σ S H Γ → Rep F.G S v d → tf d Γ = some Γ' → (∀ σ', Holds F.G H0 σ' S H Γ' → σ'.length = σ.length → (∀ i : Nat, L[i]? ≠ some true → σ'[i]? = σ[i]?) → Q σ' H) → g v σ H Q)
    (ht : TurnM (blkF F B) (wipeΓ Γ (own.map (·.2))) tf ifs elt f) : EvF F (tLc (cI F tg iter) g (cP (blkF F B) ifs) (cE (blkF F B) elt) (own.map (·.2))) Γ (lcM mi f) := by
  intro H0 σ S H Q hh po
  refine hi.c H0 σ S H _ hh ((Po.bind po).imp fun ds S1 H1 g1 q1 J hJ => ?_)
  intro A hA
  cases hc : compL f ds with
  | stk => rw [hc] at q1; exact False.elim q1
  | exn e => rw [hc] at q1; exact False.elim q1
  | ok R =>
    rw [hc] at q1
    obtain ⟨hR, q1⟩ := Po.gate (m := M.ok (D.lst R)) q1
    have h1 : Holds F.G H0 σ S1 H1 Γ := hh.grow g1
    refine ⟨fun i m H => m = ds.length - i ∧ i ≤ ds.length ∧ ∃ S acc r, Bs F.G S1 H1 A acc S H ∧ compL f (ds.drop i) = .ok r ∧ acc ++ r = R, ⟨ds.length, by simp, Nat.zero_le _, S1, [], R, Bs.start g1.sub hA, hc, rfl⟩, ?_⟩
    rintro i m H2 ⟨rfl, hi, S2, acc, r, b, hr, hR2⟩
    obtain ⟨stop, go⟩ := hJ S2 H2 b.grow.s b.grow.sub
    by_cases hlt : i < ds.length
    · obtain ⟨hgo, hy⟩ := go i ds[i] (List.getElem?_eq_getElem hlt)
      rw [List.drop_eq_getElem_cons hlt] at hr
      obtain ⟨xs, r', hx, hr', rfl⟩ := compL_cons hr
      refine .inr ⟨hgo, fun H => ∃ S, Bs F.G S1 H1 A (acc ++ xs) S H, fun H' ⟨S', b'⟩ => ⟨ds.length - (i + 1), by omega, rfl, hlt, S', acc ++ xs, r', b', hr', by rw [List.append_assoc]; exact hR2⟩, fun x H3 y => ?_⟩
      obtain ⟨S3, g3, r3⟩ := hy x H3 y
      rcases ht ds[i] with ⟨Γ', mt, me, e1, hif, hel, hf⟩ | z
      · have h3 := ((h1.grow b.grow).grow g3).wipe (own.map (·.2))
        refine hg H0 _ S3 H3 x ds[i] _ Γ' _ h3 r3 e1 fun σ4 h4 l4 k4 => ⟨wipe_eq l4 k4 B.hw |>.trans ?_, ?_⟩
        · refine List.ext_getElem? fun j => ?_
          by_cases hj : j ∈ own.map (·.2)
          · rw [wipe_at hj, wipe_at hj, wipe_length]
          · rw [wipe_out hj]
        rw [hf] at hx
        have b3 := b.step g3
        cases mt with
        | stk => cases hx
        | exn e => cases hx
        | ok c =>
          refine hif.c H0 σ4 S3 H3 _ h4 (fun S5 H5 g5 => ?_)
          cases c with
          | false =>
            cases hx
            refine iteF ?_
            rw [List.append_nil]
            exact ⟨S5, b3.step g5⟩
          | true =>
            cases me with
            | stk => cases hx
            | exn e => cases hx
            | ok y =>
              cases hx
              refine iteT (hel.c H0 σ4 S5 H5 _ (h4.grow g5) (fun S6 H6 g6 v rv => ?_))
              have b6 := (b3.step g5).step g6
              obtain ⟨vs, hvs, hlen⟩ := b6.len
              refine ⟨vs, hvs, ?_, S6, b6.add hA rv hvs⟩
              have : (acc ++ ([y] ++ r')).length = R.length := congrArg List.length hR2
              simp only [List.length_append, List.length_cons, List.length_nil] at this
              omega
      · rw [z] at hx; cases hx
    · have e : i = ds.length := by omega
      subst e
      rw [List.drop_length] at hr
      cases hr
      rw [List.append_nil] at hR2
      subst hR2
      obtain ⟨vs, hvs, rr⟩ := b.at_
      exact .inl ⟨stop, q1 S2 H2 b.grow A b.non (g1.h.free hA) ⟨vs, hvs, rr⟩⟩
theorem gf_lc (i : Nat) {x : Str} {py spos : Pos} (hx : F.N[i]? = some x) (B : BlkF F scope own V L kd) (hcm : F.cm = true) (hi : IM F tg iter Γ mi) (hg : TgM (blkF F B) tg tf) (ht : TurnM (blkF F B) (wipeΓ Γ (own.map (·.2))) tf ifs elt f)
    (hk : F.kd.lookup x = some .local) (hl : (py.line == pos.line) = true) (hl2 : (py.line == spos.line) = true) (ha : (scope.names.any fun (n, k) => n == x && (k == .local || k == .cell)) = false)
    (hs : ∀ X, F.Xs X → ∀ x, foldedSetIterable iter X.env x = pure x := by intros; rfl) : GF F (.Assign [.Name x py] (.ListComp elt [⟨tg, iter, ifs, 0⟩] scope pos) spos) i Γ (lcM mi f) := by
  obtain ⟨g, pg, eg⟩ := hg
  refine ⟨_, fun X hX => ?_, evf_lc B hi (g := g) (fun H0 σ S H v d Γ Γ' Q => eg H0 σ S H v d Γ Γ' Q) ht⟩
  have hn := F.hN X hX
  have hk' : X.env.scope.names.lookup x = some .local := by rw [F.hkd X hX]; exact hk
  exact ps_setLc (F.hc hcm X hX) (by rw [hn]; exact F.nd) (by rw [hn]; exact hx) hk' (sw_true (F.hki X hX) hk' hl ha) (cI_ok X hX) (by rw [hn]; exact blk_of (by rw [F.hkd X hX]; exact B.ok)) (fun s H C cl fp => pg _ ⟨X, s, H, C, cl, fp, hX, rfl⟩) (fun s H C cl fp => cP_ok _ ⟨X, s, H, C, cl, fp, hX, rfl⟩) (fun s H C cl fp => cE_ok _ ⟨X, s, H, C, cl, fp, hX, rfl⟩) (hs X hX)
end
section
variable {F : Fm} {Γ : Gam} {a e : Expr} {es : List Expr} {ma m : M D} {pos : Pos}
end
def firmD : D → Bool
  | .non => true | .bl _ => true | .int _ => true | .str _ => true
  | .tup xs => firmDs xs
  | _ => false
where firmDs : List D → Bool
  | [] => true
  | d :: ds => firmD d && firmDs ds
def minus (S : Hp) (p : Addr) : Hp := fun a => if a = p then none else S a
theorem minus_ne {S : Hp} {p a : Addr} (h : a ≠ p) : minus S p a = S a := if_neg h
mutual
theorem rep_minus {G : GG} {S : Hp} {p : Addr} {us : List V} (hp : S p = some (.lst us)) : ∀ {d : D} {v : V}, firmD d = true → Rep G S v d → Rep G (minus S p) v d
  | .non, _, _, .non => .non
  | .bl b, _, _, .bl _ => .bl b
  | .int b, _, _, .int _ => .int b
  | .str b, _, _, .str _ => .str b
  | .adr a, _, _, .adr _ => .adr a
  | .ktp _, _, _, .kt k r => .kt k r
  | .tup xs, _, h, .tup e r => by
    refine .tup ?_ (reps_minus hp (by simpa [firmD] using h) r)
    rw [minus_ne]
    · exact e
    · intro z
      rw [z, hp] at e
      cases e
  | .lst _, _, h, _ => by simp [firmD] at h
  | .dct _, _, h, _ => by simp [firmD] at h
  | .dks _, _, h, _ => by simp [firmD] at h
  | .obj _ _, _, h, _ => by simp [firmD] at h
  | .slf _ _ _, _, h, _ => by simp [firmD] at h
  | .scr _, _, h, _ => by simp [firmD] at h
theorem reps_minus {G : GG} {S : Hp} {p : Addr} {us : List V} (hp : S p = some (.lst us)) : ∀ {ds : List D} {vs : List V}, firmD.firmDs ds = true → Reps G S vs ds → Reps G (minus S p) vs ds
  | [], _, _, .nil => .nil
  | d :: ds, _, h, .cons r rs => by
    have h : firmD d = true ∧ firmD.firmDs ds = true := by simpa [firmD.firmDs] using h
    exact .cons (rep_minus hp h.1 r) (reps_minus hp h.2 rs)
end
def spN (G : GG) (m : List D → M D) : Sp := fun vs H Q E => ∃ S ds, Ex S H ∧ Reps G S vs ds ∧ Po G E S H (fun d S' H' => ∀ v, Rep G S' v d → NewV H v → Q v H') (m ds)
def KnN (G : GG) (k : Nat) (x : Str) (m : List D → M D) : Prop := ∃ f fd ps j, j ≤ k ∧ FnOk G.P G.w G.K G.mg G.base (L2N.CX G.P G.w) j f fd ps (spN G m) ∧ G.mg x = some (.ref f) ∧ PySem.W.keepIn G.K (.ref f) = true ∧ Binds G.K fd ps []
theorem KnN.mono {G : GG} {j k : Nat} {x : Str} {m : List D → M D} (h : KnN G j x m) (l : j ≤ k) : KnN G k x m := by
  obtain ⟨f, fd, ps, i, hi, r⟩ := h
  exact ⟨f, fd, ps, i, Nat.le_trans hi l, r⟩
section
variable {F : Fm} {Γ : Gam} {X S : Type} {fx : X → Gam} {fs : S → Gam} {x0 : X} {a e : Expr} {es : List Expr} {ma m : M D} {pos : Pos}
end
end Mir
namespace Mir
open PySem PySem.Spec L2
open PyProof.Rows (envOfC)
def cxE (P : Program) (w : World) (K : PySem.W.Frag) (mg : Str → Option Value) (base : Heap) (env : Env) (N : List Str) (A : Around) (outer : List Env) (s : Shared) (H : Hp) (E : XK) : Cx where
  prog := P
  w := w
  K := K
  mg := mg
  base := base
  A := A.deeper env
  N := N
  s_0 := s
  H_0 := H
  env := env
  outer := outer
  stack := env :: outer
  ex := []
  calm := true
  fn := fun x => x != ("__class__" : Str)
  pn := []
  xe := fun e s' => wpAny (model P w) (A.deeper env) (leaving env e) (fun _ s2 => L2N.CX P w outer H s E e s2) (fun e' s2 => L2N.CX P w outer H s E e' s2) s'
def spE (C : Addr) (fl : Str) : Sp := fun vs H Q E => ∃ a v, vs = [.ref a, v] ∧ H a = some (exo a C none) ∧ ∀ dx, H dx = none → dx ≠ a → Q .non (upd (upd H dx (exd dx [(fl, v)])) a (exo a C (some dx)))
structure ExI (P : Program) (K : PySem.W.Frag) (C cc cda : Addr) (scope : Scope) (qual par fl : Str) : Prop where
  oex : OexC K C
  fld : PySem.W.findIn K (.ref C) fl = some none
  cod : PySem.W.codeIn K (.ref cda) qual = true
  fil : ∃ ccl cdd ccs, ∃ vs : Array Value, ∃ file tf, K.lookup cda = some ⟨ccl, cdd, .fields vs, ccs⟩ ∧ vs[2]? = some (.str file tf) ∧ ((P.main.file : Str) == file) = true
  cel : ∃ cl cld csl, K.lookup cc = some ⟨cl, cld, .cell (some (.ref C)), csl⟩
  cls : ∃ cd, PySem.W.clsIn K C = some cd ∧ PySem.W.alongIn K "__init__" ((cd.mro.dropWhile (· != .ref C)).drop 1) = some (some (.builtin "ValueError.__init__"))
  sub : PySem.W.mroIn K C (.ref C) = some true
  suv : PySem.W.subIn K (.ref C) (.type "ValueError") = some true
  opq : PySem.W.nsIn K cStatics "thirdparty.any" = some none
  top : (P.main.scope.names.lookup ("super" : Str)).isSome = false
  knd : scope.kind = .function
  sup : scope.names.lookup ("super" : Str) = some .globalImplicit
  clf : scope.names.lookup ("__class__" : Str) = some .free
  slf : scope.names.lookup ("self" : Str) = some .local
  pal : scope.names.lookup par = some .local
  oth : ∀ x, scope.names.lookup x = some .cell ∨ scope.names.lookup x = some .free → x = ("__class__" : Str)
  npa : par ≠ ("self" : Str)
section
variable {P : Program} {w : World} {K : PySem.W.Frag} {mg : Str → Option Value} {base : Heap} {C cc cda f : Addr} {scope : Scope} {qual par fl : Str}
theorem exi_start {A : Around} {outer : List Env} {s : Shared} {H : Hp} {E : XK} {a : Addr} {u : Value} {v : V} {h₀ : Heap} {tk : Nat} (T : ExI P K C cc cda scope qual par fl) (hd : A.handled = none) (e0 : Env0 P w K mg base A outer s H) (rv : RelV v u)
    (hns : h₀.Ns s.heap.objs.size (fun x => [(("self" : Str), Value.ref a), (par, u)].reverse.lookup x)) (hk : ∀ b o, s.heap.get? b = some o → h₀.get? b = some o) :
    Inv (cxE P w K mg base (PySem.W.envX qual scope s.heap.objs.size f (.ref cda) [("__class__", cc)]) ["self", par] A outer s H E) [] [some (.ref a), some v] H { s with heap := h₀, toks := tk } := by
  obtain ⟨cl, cld, csl, hcell⟩ := T.cel
  have cel : ∀ x c, List.lookup x [(("__class__" : Str), cc)] = some c → x = ("__class__" : Str) ∧ c = cc := fun x c q => by
    rw [List.lookup_cons] at q
    by_cases z : x = ("__class__" : Str)
    · subst z
      simp at q
      exact ⟨rfl, q.symm⟩
    · have : (x == ("__class__" : Str)) = false := by simpa using z
      rw [this] at q
      simp at q
  have hcb := e0.mod.kin _ _ hcell
  have hself : ([(("self" : Str), Value.ref a), (par, u)].reverse.lookup ("self" : Str)) = some (.ref a) := by
    show List.lookup _ [(par, u), (("self" : Str), Value.ref a)] = _
    have : (("self" : Str) == par) = false := by simpa using fun z => T.npa z.symm
    rw [List.lookup_cons, this, List.lookup_cons]
    simp
  have hpar : ([(("self" : Str), Value.ref a), (par, u)].reverse.lookup par) = some u := by
    show List.lookup _ [(par, u), (("self" : Str), Value.ref a)] = _
    rw [List.lookup_cons]
    simp
  refine ⟨⟨e0.mod, T.knd, rfl, rfl, Nat.le_refl _, fun x y c h1 h2 => (cel x c h1).1.trans (cel y c h2).1.symm, fun x hx => ?_, fun x c hx h => ?_, fun _ => hd, Around.frames_deeper e0.frames, .inr ⟨rfl, rfl⟩, fun b z => absurd (show b ∈ ([] : List Addr) from z) (by simp), e0.bs, e0.bsz, fun b _ _ z => absurd (show b ∈ ([] : List Addr) from z) (by simp), fun b z => absurd (show b ∈ ([] : List Addr) from z) (by simp), e0.funs, e0.frf⟩,
    rfl, e0.bare, Un.kept hk, ⟨_, hns, fun i x v' h1 h2 h3 => ?_⟩, fun x c h => ?_, e0.hok.fresh (Nat.le_refl _), fun x c h => ?_, fun p hp => absurd (show p ∈ ([] : List (Addr × Obj)) from hp) (by simp), e0.hok.kept hk, rfl⟩
  · have := T.oth x hx
    subst this
    exact ⟨cc, by show List.lookup _ [(("__class__" : Str), cc)] = _; simp⟩
  · have := (cel x c h).1
    subst this
    exact absurd hx (by show ¬(("__class__" : Str) != ("__class__" : Str)) = true; simp)
  · match i, h1, h2 with
    | 0, h1, h2 =>
      cases h1
      cases h2
      exact ⟨_, rfl, .inl ⟨T.slf, hself⟩⟩
    | 1, h1, h2 =>
      cases h1
      cases h2
      exact ⟨_, rv, .inl ⟨T.pal, hpar⟩⟩
    | (n + 2), h1, h2 => cases h1
  · obtain ⟨_, rfl⟩ := cel x c h
    exact ⟨_, _, hk _ _ (e0.bs _ _ hcb).1, rfl⟩
  · obtain ⟨_, rfl⟩ := cel x c h
    exact (e0.bs _ _ hcb).2
theorem bound_init {A : Around} {E : Value → Shared → Prop} {h : Heap} {g : Array GenState} {d : Drawn} {t : Nat} {os : OsState} {u e t0 : Addr} {rest : List Value} {Q : Value → Shared → Prop} (T : OexC K C) (X : K.In h) (he : h.get? e = some (PySem.HandSPX.excO C t0)) (hu : h.get? u = some (PySem.W.kxs_mw "ValueError.__init__" e)) (hr : rest.length ≤ sizeLine)
    (hq : ∀ h' t1, (∀ b o, b ≠ e → h.get? b = some o → h'.get? b = some o) → h'.get? e = some (PySem.HandSPX.excO C t1) → Q .none ⟨h', g, d, t, os⟩) : wpAny (model P w) A (call (.ref u) rest) Q E ⟨h, g, d, t, os⟩ := by
  obtain ⟨nm, q, N, bs, bm, sn, sub, ab, col, dd, k0, k1, k2, k3, k5, hC, hbm⟩ := T.cls
  refine wpAny_call (codeAny_of_tree (show wpAny (model P w) A.in1 (callAny (.ref u) ⟨rest, []⟩) _ _ _ from ?_))
  unfold callAny
  refine wpAny_bind (wpAny_load hu ?_)
  simp only [PySem.W.kxs_mw]
  refine PySem.W.KFB.if_so (by decide) (wpAny_bind (PySem.W.check_bound_init F.excBase_ValueError.toExcCallFacts (X _ _ hC) he rfl (wpAny_bind (wpAny_pure (wpAny_pure ⟨plainId_quiet F.excBase_ValueError.init.plain _, codeAny_builtin F.excBase_ValueError.initEntry ?_⟩)))))
  exact PySem.W.exc_init_tree (cls := .ref C) (t0 := t0) (dv := none) (c2 := .none) (c3 := .none) (b4 := .bool false) he hr fun h' k e' t' => hq h' _ k e'
theorem exi_ok {args : Arguments} {body : List Stmt} {dV kV doc pm ct oc : Value} {an od : Option Addr} {osl : Array (Option Value)} {k : Nat} {p0 p1 p2 p3 p4 p5 p6 p7 p8 p9 : Pos} {msg : Str} {j : Nat} {ar : Arg} {pl : Env → Sem Bool}
    (T : ExI P K C cc cda scope qual par fl) (lk : K.lookup f = some ⟨oc, od, .func (PySem.W.ksFn "__init__" qual args body scope dV kV doc pm an (.ref cda) ct cc), osl⟩) (hsup : mg "super" = none)
    (hbody : body = [.Expr (.Call (.Attribute (.Call (.Name "super" p0) [] [] p1) "__init__" p2) [.Constant (.str msg) j p3] [] p4) p5, .Assign [.Attribute (.Name "self" p6) fl p7] (.Name par p8) p9])
    (hargs : (args.posonlyargs ++ args.args).head? = some ar) (har : ar.arg = ("self" : Str)) (hnc : ∀ x ∈ scope.names, x.2 ≠ .cell) (hco : scope.isCoroutine = false) (hgen : scope.isGenerator = false)
    (hec : ∀ env : Env, eval (.Call (.Attribute (.Call (.Name "super" p0) [] [] p1) "__init__" p2) [.Constant (.str msg) j p3] [] p4) env = (do
      let ov ← attributeBase (.Call (.Name "super" p0) [] [] p1) "__init__" env (eval (.Call (.Name "super" p0) [] [] p1) env)
      standAt p2.atName
      let (f, first) ← holding [ov] (getMethod ov "__init__" (pl env))
      callWith p4 f first (backTo p4 (starEach [.Constant (.str msg) j p3] env)) []))
    (hs1 : ∀ env : Env, swapsWith (.Call (.Attribute (.Call (.Name "super" p0) [] [] p1) "__init__" p2) [.Constant (.str msg) j p3] [] p4) none p5.line env = pure false)
    (hs2 : ∀ env : Env, swapsWith (.Name par p8) (some (.Attribute (.Name "self" p6) fl p7)) p9.line env = pure false)
    (hst : ∀ env : Env, starEach [.Constant (.str msg) j p3] env = (false, eval (.Constant (.str msg) j p3) env) :: starEach [] env) (hin : ∀ L : Addr, interactive (PySem.W.envX qual scope L f (.ref cda) [("__class__", cc)]) = false)
    (hdp : (par == ("__debug__" : Str)) = false) (hcp : (par == ("__classdict__" : Str)) = false) :
    FnOk P w K mg base (L2N.CX P w) (k + 1) f (PySem.W.ksFn "__init__" qual args body scope dV kV doc pm an (.ref cda) ct cc) ["self", par] (spE C fl) := by
  subst hbody
  refine ⟨fun vs H Q E h => by obtain ⟨a, v, rfl, _⟩ := h; rfl, fun A outer s H ag us vs Q E hr e0 hb r hsp => ?_⟩
  obtain ⟨a, v, rfl, ha, hq⟩ := hsp
  cases r with
  | @cons _ u0 _ us' ra r' =>
  cases r' with
  | @cons _ u _ us2 rv r2 =>
  cases r2
  obtain rfl : u0 = Value.ref a := ra
  have KX : K.In s.heap := e0.mod.kin.keeps fun b o e => (e0.bs b o e).1
  have lim : s.heap.NoLimit := e0.mod.nolimit.keeps fun b o e => (e0.bs b o e).1
  have hloc : ∀ x ∈ (["self", par] : List Str).zip [Value.ref a, u], scope.names.lookup x.1 = some .local := fun x hx => by
    rcases List.mem_cons.mp hx with rfl | hx
    · exact T.slf
    · rcases List.mem_cons.mp hx with rfl | hx
      · exact T.pal
      · cases hx
  refine ks_codeAny_call_defAt hr.depth (KX _ _ lk) rfl lim (PySem.W.codeRec_of KX T.cod) rfl hb hnc hloc (fun h₀ hns hkeep => ?_) hco hgen T.knd
  have I0 := exi_start (f := f) (E := E) (tk := s.toks + 2) T hr.hd e0 rv hns hkeep
  obtain ⟨clc, cldc, cslc, hcl⟩ := T.cel
  obtain ⟨ccl, cdd, ccs, vsf, file, tf, hcda, hv2, hfile⟩ := T.fil
  obtain ⟨cd, hcd, halong⟩ := T.cls
  have K0 : K.In h₀ := I0.kIn
  refine ks_wpAt_execs_cons (ks_wpAt_Expr_any (ks_wpAt_MethodCall (pl := pl _) ?_ (hec _)) (hin _) (hs1 _))
  refine ks_wpAt_super_base T.sup T.clf (by decide) rfl (K0 _ _ lk) rfl hargs rfl (K0 _ _ hcda) rfl hv2 hfile T.top ?_
  obtain ⟨mb, hmb1, hmb2⟩ := I0.mod.blt
  refine PySem.W.ks_loadName_global T.knd T.sup (Calls.loadGlobal_builtin (I0.mod.glob.keeps I0.bk) hsup (hmb1.keeps I0.bk) ((hmb2 ("super" : Str) (by decide)).trans (by rfl)) ⟨rfl, ?_⟩)
  refine wpAny_loadName_free T.knd T.clf rfl ⟨_, K0 _ _ hcl, rfl⟩ ?_
  refine wpAny_loadName_local T.knd (by show scope.names.lookup ar.arg = _; rw [har]; exact T.slf) hns (v := .ref a) (by
    rw [har]
    show List.lookup _ [(par, u), (("self" : Str), Value.ref a)] = _
    have : (("self" : Str) == par) = false := by simpa using fun z => T.npa z.symm
    rw [List.lookup_cons, this, List.lookup_cons]
    simp) ?_
  obtain ⟨oD, hoD, hdD⟩ : ∃ oD, h₀.get? C = some oD ∧ oD.data = .cls cd := by
    have z := hcd
    unfold PySem.W.clsIn at z
    split at z
    · rename_i ho
      cases z
      exact ⟨_, K0 _ _ ho, rfl⟩
    · cases z
  obtain ⟨t1, hoa⟩ := exo_at I0.hok ha
  refine ks_wpAny_isType_cls hoD hdD ⟨rfl, ?_⟩
  refine ks_wpAny_call_super hoD hdD hoa rfl (fun c e => by cases e) (PySem.W.looks_mroIn K0 T.sub) fun h1 hso k1 => ?_
  have I1 := I0.kept (t' := s.toks + 2) k1
  have K1 : K.In h1 := I1.kIn
  have J : PySem.W.InstAt h1 a _ C none := ⟨k1 _ _ hoa, rfl, rfl, trivial⟩
  refine PySem.W.kxs_getMethod PySem.W.kxs_ValueError hso (PySem.W.looks_opaque K1 T.opq) (l₀ := cd.mro) (fun A' Q' E' s' k' q' => wpAny_bind ((PySem.W.looks_clsIn K1 hcd) A' _ E' s' k' (wpAny_pure q'))) rfl K1 halong
    (J.type.andThen (PySem.W.looks_subIn K1 T.suv)) (PySem.W.ks_ne K1 J hcd) (by decide) ?_
  have I2 := ClX.pin_new (t' := s.toks + 3) I1 (o := PySem.W.kxs_mw "ValueError.__init__" a) (h' := h1.push (PySem.W.kxs_mw "ValueError.__init__" a)) (fun b o e => Heap.get?_push_of_some _ e) (Nat.le_refl _) (Heap.get?_push_at rfl rfl) (fun v e => by cases e)
  have hA := (pa_cons (pe_str (x := msg) (j := j) (pos := p3)) pa_nil (hst _)).run p4 _ _ _ _ (fun vs H' => H' = H ∧ vs.length = 1) I2 ⟨rfl, rfl⟩
  rw [show (cxE P w K mg base (PySem.W.envX qual scope s.heap.objs.size f (.ref cda) [("__class__", cc)]) ["self", par] A outer s H E).env = PySem.W.envX qual scope s.heap.objs.size f (.ref cda) [("__class__", cc)] from rfl, hst] at hA
  show wpAny _ _ (callWith p4 _ [] (backTo p4 (starEach [.Constant (.str msg) j p3] (PySem.W.envX qual scope s.heap.objs.size f (.ref cda) [("__class__", cc)]))) []) _ _ _
  rw [hst]
  refine PySem.W.kxs_callWith (i := "ValueError.__init__") (x := a) (by rfl) (Calls.evalArgs_plain (thn hA fun us3 s3 hs3 => ?_))
  obtain ⟨vs3, H3, I3, r3, rfl, hl3⟩ := hs3
  obtain ⟨t3, ho3⟩ := exo_at I3.hok ha
  have hu3 := ClX.pin_at I3
  refine ⟨hu3, ?_⟩
  obtain ⟨h3, g3, d3, tk3, os3⟩ := s3
  refine bound_init T.oex I3.kIn ho3 hu3 (by show us3.length ≤ _; rw [← Paired.length r3, hl3, sizeLine_eq]; omega) fun h4 t4 k4 hx4 => ?_
  have I4 := (ClX.unpin I3).write (t' := tk3) (x := a) (e := a) (o := exo a C none) (by rw [ha]; exact True.intro) (.inl rfl) k4 ⟨_, hx4⟩ (exo_ok hx4)
  have eu : upd H3 a (exo a C none) = H3 := by
    funext b
    by_cases hb : b = a
    · rw [hb, upd_same, ha]
    · rw [upd_ne hb]
  rw [eu] at I4
  refine wpAt_of_wpAny (thn ((pss_one (ps_ost (pe_var (i := 0) rfl (.inl T.slf) (by decide) (by decide)) (pe_var (i := 1) rfl (.inl T.pal) hdp hcp) (hs2 _))).run [] _ _ _ { nx := fun _ H' => Q .non H', rt := Q } I4
    ⟨v, rfl, .ref a, rfl, a, C, rfl, T.oex, T.fld, .inl ⟨ha, fun dx n ne => hq dx n ne⟩⟩) fun fl5 s5 hs5 => ?_)
  cases fl5 with
  | ret u5 =>
    obtain ⟨v5, σ5, H5, J5, rv5, q5⟩ := hs5
    exact ⟨v5, H5, J5.os, J5.bare, J5.base, J5.hok, rv5, q5⟩
  | next =>
    obtain ⟨σ5, H5, J5, q5⟩ := hs5
    exact ⟨.non, H5, J5.os, J5.bare, J5.base, J5.hok, rfl, q5⟩
  | brk =>
    obtain ⟨_, _, _, q5⟩ := hs5
    exact q5.elim
  | cont =>
    obtain ⟨_, _, _, q5⟩ := hs5
    exact q5.elim
end
end Mir
namespace Mir
open PySem PySem.Spec L2
open PyProof.Rows (envOfC)
section
variable {F : Fm} {Γ : Gam} {X S : Type} {fx : X → Gam} {fs : S → Gam} {x0 : X} {a b c e o : Expr} {es : List Expr} {ma mb mc m mo me : M D} {ml : M (List D)} {pos apos : Pos} {rest : List Stmt}
structure ExF (G : GG) (k : Nat) (x : Str) (c : Nat) (fl : Str) : Prop where
  ex : ∃ (C fI : Addr) (fd : FuncData) (par : Str) (j : Nat), j + 1 ≤ k ∧ G.xc c = .ref C ∧ G.mg x = some (.ref C) ∧ OexC G.K C ∧ PySem.W.findIn G.K (.ref C) "__init__" = some (some (.ref fI)) ∧ PySem.W.typeIn G.K (.ref fI) = some (.type "function") ∧
    FnOk G.P G.w G.K G.mg G.base (L2N.CX G.P G.w) j fI fd ["self", par] (spE C fl) ∧ Binds G.K fd ["self", par] []
theorem ExF.mono {G : GG} {j k c : Nat} {x fl : Str} (h : ExF G j x c fl) (l : j ≤ k) : ExF G k x c fl := by
  obtain ⟨C, fI, fd, par, i, hi, r⟩ := h.ex
  exact ⟨C, fI, fd, par, i, Nat.le_trans hi l, r⟩
def exnF {X S : Type} (c : Nat) (fl : Str) (x0 : X) : List D → Ctl X S
  | [d] => .exn ⟨c, [(fl, d)]⟩ x0
  | _ => .stk
theorem xd_upd {H : Hp} {a C dx : Addr} {f : Str} {v : V} (ha : H a = none) (hd : H dx = none) (ne : dx ≠ a) :
    upd (del (upd (upd (upd H a (exo a C none)) dx (exd dx [(f, v)])) a (exo a C (some dx))) a) dx (.xd [(f, v)]) = upd H dx (.xd [(f, v)]) := by
  funext b
  by_cases h1 : b = dx
  · subst h1
    rw [upd_same, upd_same]
  · rw [upd_ne h1, upd_ne h1]
    by_cases h2 : b = a
    · subst h2
      rw [del_same, ha]
    · rw [del_ne h2, upd_ne h2, upd_ne h1, upd_ne h2]
theorem bm_raiseF {x fl : Str} {c : Nat} {p p3 : Pos} (K : ExF F.G F.k x c fl) (hcm : F.cm = true) (hg : F.kd.lookup x = some .globalImplicit) (ha : AM F [e] Γ ml) (w : Weak Γ (fx x0)) (hdb : (x == ("__debug__" : Str)) = false := by decide)
    (he : ∀ X, F.Xs X → starEach [e] X.env = (false, eval e X.env) :: starEach [] X.env := by intros; rfl) :
    BM F [.Raise (some (.Call (.Name x p) [e] [] p3)) none pos] Γ ((ml.bindC x0 (exnF c fl x0) : Ctl X S).out fx fs) := by
  obtain ⟨C, fI, fd, par, j, hj, hc, gC, T, iC, tI, ok, hb⟩ := K.ex
  obtain ⟨t, q, g⟩ := ha
  refine ⟨fun _ σ H => tMkO C (spE C fl) [] t σ H fun cls d H' => F.W cls d σ H', fun Y hY => pss_one ?_, fun S0 H0 Dn σ S H gr hh po => ?_⟩
  · obtain ⟨h1, h2, h3, h4, h5, _⟩ := F.hX Y hY
    rw [← h3] at T iC tI
    rw [← h4] at gC
    rw [← h1, ← h2, ← h3, ← h4, ← h5] at ok
    rw [← h3] at hb
    exact L2N.ps_raise (F.hc hcm Y hY) (F.tk Y hY) (L2N.pmkN_oex T iC tI ok ((F.hr hcm Y hY).mono hj) hb .nil (fun pins σ H s u s' _ z => by obtain ⟨_, _, _, _, _, _, _, _, _, _, _, _, z⟩ := z; exact z.elim) (F.gl Y hY hg) gC (q Y hY) hdb (he Y hY) (by rfl))
  · refine g H0 σ S H _ hh ((opo_bind gr hh w po).imp fun ds S1 H1 _ ⟨g1, h1, p1⟩ vs r => ?_)
    cases r with
    | nil => exact False.elim p1
    | @cons v _ d _ rv r =>
      cases r with
      | cons _ _ => exact False.elim p1
      | nil =>
        refine ⟨by show 1 ≤ 1000; omega, fun a0 ha0 => ⟨a0, v, rfl, upd_same, fun dx hdx ne => ?_⟩⟩
        have hd1 : H1 dx = none := by rw [upd_ne ne] at hdx; exact hdx
        refine ⟨rfl, dx, [(fl, v)], upd_same, ?_, hd1, ?_⟩
        · rw [upd_ne ne, upd_same]
        · rw [xd_upd ha0 hd1 ne]
          have gn := Grow.new (o := .xd [(fl, v)]) h1.ex hd1
          exact p1 (.ref C) (some dx) σ _ _ (g1.trans gn) ⟨Γ, h1.grow gn, w⟩ ⟨hc.symm, .inr ⟨(fun z => by cases z), dx, _, rfl, upd_same, rfl, .cons (rv.mono gn.s) .nil⟩⟩
structure XfK (G : GG) (f : Str) : Prop where
  ex : ∀ c, c < 6 → ∃ C, G.xc c = .ref C ∧ XfC G.K C ∧ PySem.W.findIn G.K (.ref C) f = some none
end
structure ShrF (K : PySem.W.Frag) (C : Addr) : Prop where
  sf : PySem.W.selfFirst K C = true
  rr : PySem.W.findIn K (.ref C) "__rrshift__" = some none
  t1 : PySem.W.findIn K (.type "tuple") "__rshift__" = some none
  t2 : PySem.W.findIn K (.type "tuple") "__rrshift__" = some none
  sb : PySem.W.subIn K (.type "tuple") (.ref C) = some false
def shrB (K : PySem.W.Frag) (C : Addr) : Bool := PySem.W.selfFirst K C && (decide (PySem.W.findIn K (.ref C) "__rrshift__" = some none) && (decide (PySem.W.findIn K (.type "tuple") "__rshift__" = some none) && (decide (PySem.W.findIn K (.type "tuple") "__rrshift__" = some none) && decide (PySem.W.subIn K (.type "tuple") (.ref C) = some false))))
theorem shrB_ok {K : PySem.W.Frag} {C : Addr} (h : shrB K C = true) : ShrF K C := by
  simp only [shrB, Bool.and_eq_true, decide_eq_true_eq] at h
  exact ⟨h.1, h.2.1, h.2.2.1, h.2.2.2.1, h.2.2.2.2⟩
section
open PySem.W
theorem shr_tup {prog : Program} {w : World} {A : Around} {E : Value → Shared → Prop} {s : Shared} {K : Frag} {x C f : Addr} {ox : Obj} {od : Option Obj} {b : Value} {Q : Value → Shared → Prop} (X : K.In s.heap) (I : InstAt s.heap x ox C od) (hb : Looks (model prog w) s.heap (typeOf b) (.type "tuple")) (Z : ShrF K C)
    (hs : findIn K (.ref C) "__rshift__" = some (some (.ref f))) (hf : isFn K (.ref f) = true) (h : wpAny (model prog w) A (call (.ref f) [.ref x, b]) (CmpBack Q) E s) : wpAny (model prog w) A (binaryOp .RShift (.ref x) b) Q E s := by
  obtain ⟨cd, rest, hcd, hm⟩ := ksp_first Z.sf
  have e1 : PySem.dunder "rshift" = ("__rshift__" : Str) := by rfl
  have e2 : dunderR "rshift" = ("__rrshift__" : Str) := by rfl
  have go := ksp_try (name := PySem.dunder "rshift") X I (by rw [e1]; exact hs) hf h
  have m0 := fills_K (M := model prog w) (nm := "rshift") X hcd hm (by rw [e1]; exact hs)
  have m1 := ksp_fillsT (M := model prog w) (T := "tuple") (nm := "rshift") (fo := none) (ro := none) X (by rw [e1]; exact Z.t1) (by rw [e2]; exact Z.t2)
  have m2 := ksp_inPy (M := model prog w) (nm := "rshift") X (by rw [e1]; exact hs) (by rw [e2]; exact Z.rr) (.inl rfl)
  have m3 := I.type (M := model prog w)
  obtain ⟨hp, gg, dd, tt, os⟩ := s
  have n0 : (Value.ref C == Value.type "tuple") = false := rfl
  simp only [binaryOp, show Operator.info .RShift = (">>", "rshift") from rfl]
  refine wpAny_holding (wpAny_bind ?_)
  unfold binaryOp1
  refine wpAny_bind (m3.at (wpAny_bind (hb.at (wpAny_bind (m0.at ?_)))))
  simp only [n0, Bool.false_eq_true, if_false]
  ksp_lk
  refine thn go fun r s' z => ?_
  obtain ⟨v, rfl, q⟩ := z
  ksp_lk
  exact q
end
section
variable {F : Fm} {Γ : Gam} {a b : Expr} {ma mb : M D} {pos : Pos}
structure ShrK (G : GG) (c : Nat) : Prop where
  f : ShrF G.K (G.ca c)
def shrO (c : Nat) (m : List D → M D) (x y : D) : M D := match x, y with
  | .obj c1 fs, .tup ys => if c1 = c then m [.obj c1 fs, .tup ys] else .stk
  | _, _ => .stk
def rShrO (G : GG) (c : Nat) (m : List D → M D) (W : WX) : L2.St → R2 := fun σ x y H Q => ∃ a dx fs b ys, x = .ref a ∧ y = .ref b ∧ H a = some (.ins (G.ca c) dx fs) ∧ H b = some (.tup ys) ∧ spM G m [x, y] H Q (WE W σ)
theorem rms_shrO {c : Nat} {m : List D → M D} : RMS F (rShrO F.G c m F.W) (shrO c m) := by
  intro x y vx vy σ S H Q ex rx ry p
  cases x with
  | obj c1 fs =>
    cases y with
    | tup ys =>
      obtain ⟨h1, q⟩ := Po.gate (m := m [.obj c1 fs, .tup ys]) p
      subst h1
      cases rx with
      | obj x1 x2 n r =>
        cases ry with
        | tup y1 r' => exact ⟨_, _, _, _, _, rfl, rfl, ex _ _ x1, ex _ _ y1, S, [.obj _ fs, .tup ys], ex, .cons (.obj x1 x2 n r) (.cons (.tup y1 r') .nil), q⟩
    | _ => exact False.elim p
  | _ => exact False.elim p
theorem ops_shrO {c : Nat} {m : List D → M D} (K : DunK F.G F.k c "__rshift__" m) (Z : ShrK F.G c) (hcm : F.cm = true) (X : Cx) (hX : F.Xs X) : OpS X (binaryOp .RShift) (rShrO F.G c m F.W) := by
  intro pins s σ H x y v u Q I rx ry ⟨a', dx, fs', b', ys, e1, e2, h1', h2', q⟩
  obtain ⟨f, fd, ps, j, hj, ok, h1, h2, h3, h4⟩ := K.at (k := 0) X hX
  subst e1
  subst e2
  obtain rfl : v = Value.ref a' := rx
  obtain rfl : u = Value.ref b' := ry
  obtain ⟨ox, od, J⟩ := ins_J I h1'
  obtain ⟨_, its, _, p⟩ : ys.length ≤ sizeLine ∧ ∃ its : List Value, Vals ys its ∧ _ := I.hok b' _ h2'
  have lk := PySem.W.kitAt_ty (model X.prog X.w) s.heap (a := b') (T := "tuple") (by obtain ⟨o, ho, hc, _⟩ := p; exact ⟨o, ho, hc⟩)
  have Z' : ShrF X.K (F.G.ca c) := by rw [F.hK X hX]; exact Z.f
  refine shr_tup I.kIn J lk Z' h1 h2 ?_
  refine thn (call_atS (us := [.ref a', .ref b']) (ws := [.ref a', .ref b']) ok h4 ((F.hr hcm X hX).mono (Nat.le_of_succ_le hj)) I.env0 (L2N.passAt (F.tk X hX) σ) I (.cons rfl (.cons rfl .nil)) q) fun w s' z => ?_
  obtain ⟨z', H', I', rz, qz⟩ := z
  exact SlX.cmpback rz ⟨z', H', I', rz, qz⟩
theorem em_shrO {c : Nat} {m : List D → M D} (K : DunK F.G F.k c "__rshift__" m) (Z : ShrK F.G c) (hcm : F.cm = true) (ha : EM F a Γ ma) (hb : EM F b Γ mb) : EM F (.BinOp a .RShift b pos) Γ (b2 (shrO c m) ma mb) :=
  em_opS (fun X hX => ops_shrO K Z hcm X hX) rms_shrO ha hb
end
end Mir
namespace Mir
open PySem PySem.Spec L2
open PyProof.Rows (envOfC)
inductive CDisp : List (Option Expr) → List Expr → List (Str × Str) → Prop
  | nil : CDisp [] [] []
  | cons {k v : Str} {j j' : Nat} {p p' : Pos} {ks : List (Option Expr)} {vs : List Expr} {l : List (Str × Str)} (h : CDisp ks vs l) : CDisp (some (.Constant (.str k) j p) :: ks) (.Constant (.str v) j' p' :: vs) ((k, v) :: l)
def cTrs (l : List (Str × Str)) : List (TE × TE) := l.map fun q => (tC (.str q.1), tC (.str q.2))
def cK (l : List (Str × Str)) : List (Key × V) := l.map fun q => (.inr q.1, .str q.2)
def cD (l : List (Str × Str)) : List (Key × D) := l.map fun q => (.inr q.1, .str q.2)
theorem CDisp.pps {X : Cx} {pos : Pos} {ks : List (Option Expr)} {vs : List Expr} {l : List (Str × Str)} (h : CDisp ks vs l) : PPs X pos ks vs (cTrs l) := by
  induction h with
  | nil => exact pps_nil
  | cons _ ih => exact pps_cons pe_str pe_str ih
theorem CDisp.all {ks : List (Option Expr)} {vs : List Expr} {l : List (Str × Str)} (h : CDisp ks vs l) : ks.all (·.isSome) = true ∧ ks.length = vs.length ∧ ks.length = l.length := by
  induction h with
  | nil => exact ⟨rfl, rfl, rfl⟩
  | cons _ ih => exact ⟨by simpa using ih.1, by simpa using ih.2.1, by simpa using ih.2.2⟩
theorem tPairs_c {σ : L2.St} {H : Hp} {Q : List (V × V) → Hp → Prop} : ∀ {l : List (Str × Str)}, Q ((cK l).map fun kv => (kV kv.1, kv.2)) H → tPairs (cTrs l) σ H Q
  | [], h => h
  | q :: l, h => tPairs_c (l := l) (Q := fun ps H3 => Q ((.str q.1, .str q.2) :: ps) H3) h
theorem reps_cD {G : GG} {S : Hp} : ∀ {l : List (Str × Str)}, Reps G S ((cK l).map (·.2)) ((cD l).map (·.2))
  | [] => .nil
  | _ :: l => .cons (.str _) (reps_cD (l := l))
section
variable {F : Fm} {Γ : Gam} {a b : Expr} {ma mb : M D} {pos : Pos}
theorem em_disp {ks : List (Option Expr)} {vs : List Expr} {l : List (Str × Str)} (h : CDisp ks vs l) (h0 : ks ≠ []) (h15 : ks.length ≤ 15) (hm : mergeK [] (cK l) = cK l) : EM F (.Dict ks vs pos) Γ (.ok (.dks (cD l))) := by
  refine ⟨tDisp (cTrs l), fun X hX => pe_disp h.pps h.all.1 h.all.2.1 h0 h15, fun H0 σ S H Q hh po => fun p hp => tPairs_c ⟨upd_same, cK l, rfl, ?_, ?_⟩⟩
  · show (cK l).length ≤ 15
    unfold cK
    rw [List.length_map, ← h.all.2.2]
    exact h15
  · have e : upd (upd H p (.dK [])) p (.dK (mergeK [] (cK l))) = upd H p (.dK (cK l)) := by
      funext c
      by_cases hc : c = p
      · subst hc
        rw [upd_same, upd_same, hm]
      · rw [upd_ne hc, upd_ne hc, upd_ne hc]
    rw [e]
    have g := Grow.new (o := .dK (cK l)) hh.ex hp
    refine po _ _ g _ (.dks (.inl upd_same) ?_ ?_)
    · unfold cK cD
      rw [List.map_map, List.map_map]
      rfl
    · exact reps_cD
end
end Mir
namespace Mir
open PySem PySem.Spec L2
open PyProof.Rows (envOfC)
def filB (K : PySem.W.Frag) (cda : Addr) (file : Str) : Bool := match K.lookup cda with
  | some o => (match o.data with
    | .fields vs => (match (vs[2]? : Option Value) with
      | some (Value.str x _) => file == x
      | _ => false)
    | _ => false)
  | none => false
def celB (K : PySem.W.Frag) (cc C : Addr) : Bool := match K.lookup cc with
  | some o => (match o.data with
    | .cell (some (.ref y)) => decide (y = C)
    | _ => false)
  | none => false
def supB (K : PySem.W.Frag) (C : Addr) : Bool := match PySem.W.clsIn K C with
  | some cd => decide (PySem.W.alongIn K "__init__" ((cd.mro.dropWhile (· != .ref C)).drop 1) = some (some (.builtin "ValueError.__init__")))
  | none => false
def exiB (K : PySem.W.Frag) (file : Str) (C cc cda fI : Addr) (qual fl : Str) : Bool :=
  filB K cda file && celB K cc C && supB K C && PySem.W.codeIn K (.ref cda) qual && PySem.W.keepIn K (.ref C) &&
  decide (PySem.W.findIn K (.ref C) fl = some none) && decide (PySem.W.mroIn K C (.ref C) = some true) && decide (PySem.W.subIn K (.ref C) (.type "ValueError") = some true) &&
  decide (PySem.W.nsIn K cStatics "thirdparty.any" = some none) && decide (PySem.W.findIn K (.ref C) "__setattr__" = some (some (.builtin "object.__setattr__"))) &&
  decide (PySem.W.subIn K (.ref C) (.type "BaseException") = some true) && decide (PySem.W.typeIn K (.ref C) = some (.type "type")) &&
  decide (PySem.W.findIn K (.ref C) "__init__" = some (some (.ref fI))) && decide (PySem.W.typeIn K (.ref fI) = some (.type "function"))
def escB (sc : Scope) (par : Str) : Bool := decide (sc.names.lookup ("super" : Str) = some .globalImplicit) && decide (sc.names.lookup ("__class__" : Str) = some .free) && decide (sc.names.lookup ("self" : Str) = some .local) && decide (sc.names.lookup par = some .local) &&
  (sc.names.all fun x => decide (x.2 ≠ .cell) && (decide (x.2 ≠ .free) || decide (x.1 = ("__class__" : Str)))) && decide (par ≠ ("self" : Str)) && !sc.isCoroutine && !sc.isGenerator && decide (sc.kind = .function)
theorem look_mem {l : List (Str × NameKind)} {x : Str} {k : NameKind} (h : l.lookup x = some k) : (x, k) ∈ l := by
  induction l with
  | nil => cases h
  | cons p l ih =>
    obtain ⟨y, q⟩ := p
    rw [List.lookup_cons] at h
    by_cases z : x = y
    · subst z
      simp at h
      subst h
      exact List.mem_cons_self
    · rw [show (x == y) = false by simpa using z] at h
      exact List.mem_cons_of_mem _ (ih h)
theorem exF_mk {G : GG} {x : Str} {c : Nat} {C cc cda fI N : Addr} {qual par fl msg nm q : Str} {args : Arguments} {body : List Stmt} {sc : Scope} {dV kV doc pm ct oc : Value} {an od : Option Addr} {osl : Array (Option Value)} {p0 p1 p2 p3 p4 p5 p6 p7 p8 p9 : Pos} {j : Nat} {ar : Arg} {pl : Env → Sem Bool}
    {bs bm sub : List Value} {sn : List Str} {ab : Bool} {col : Option Bool} {dd : Option Addr} {k0 k1 k2 k3 k5 : Option Value}
    (hC : G.xc c = .ref C) (hm : G.mg x = some (.ref C)) (ol : G.K.lookup C = some (excClassObj nm q C N bs bm true sn sub ab col dd k0 k1 k2 k3 k5 "ValueError.__new__")) (rv : PySem.HandSPX.refsVE bm = true) (eb : exiB G.K G.P.main.file C cc cda fI qual fl = true)
    (lk : G.K.lookup fI = some ⟨oc, od, .func (PySem.W.ksFn "__init__" qual args body sc dV kV doc pm an (.ref cda) ct cc), osl⟩) (hsup : G.mg "super" = none) (top : (G.P.main.scope.names.lookup ("super" : Str)).isSome = false) (hsc : escB sc par = true)
    (hbody : body = [.Expr (.Call (.Attribute (.Call (.Name "super" p0) [] [] p1) "__init__" p2) [.Constant (.str msg) j p3] [] p4) p5, .Assign [.Attribute (.Name "self" p6) fl p7] (.Name par p8) p9])
    (hargs : (args.posonlyargs ++ args.args).head? = some ar) (har : ar.arg = ("self" : Str))
    (hec : ∀ env : Env, eval (.Call (.Attribute (.Call (.Name "super" p0) [] [] p1) "__init__" p2) [.Constant (.str msg) j p3] [] p4) env = (do
      let ov ← attributeBase (.Call (.Name "super" p0) [] [] p1) "__init__" env (eval (.Call (.Name "super" p0) [] [] p1) env)
      standAt p2.atName
      let (f, first) ← holding [ov] (getMethod ov "__init__" (pl env))
      callWith p4 f first (backTo p4 (starEach [.Constant (.str msg) j p3] env)) []))
    (hs1 : ∀ env : Env, swapsWith (.Call (.Attribute (.Call (.Name "super" p0) [] [] p1) "__init__" p2) [.Constant (.str msg) j p3] [] p4) none p5.line env = pure false)
    (hs2 : ∀ env : Env, swapsWith (.Name par p8) (some (.Attribute (.Name "self" p6) fl p7)) p9.line env = pure false)
    (hst : ∀ env : Env, starEach [.Constant (.str msg) j p3] env = (false, eval (.Constant (.str msg) j p3) env) :: starEach [] env) (hin : ∀ L : Addr, interactive (PySem.W.envX qual sc L fI (.ref cda) [("__class__", cc)]) = false)
    (hdp : (par == ("__debug__" : Str)) = false) (hcp : (par == ("__classdict__" : Str)) = false) (hb : Binds G.K (PySem.W.ksFn "__init__" qual args body sc dV kV doc pm an (.ref cda) ct cc) ["self", par] []) : ExF G 2 x c fl := by
  simp only [exiB, Bool.and_eq_true, decide_eq_true_eq] at eb
  obtain ⟨⟨⟨⟨⟨⟨⟨⟨⟨⟨⟨⟨⟨e1, e2⟩, e3⟩, e4⟩, e5⟩, e6⟩, e7⟩, e8⟩, e9⟩, e10⟩, e11⟩, e12⟩, e13⟩, e14⟩ := eb
  simp only [escB, Bool.and_eq_true, decide_eq_true_eq, Bool.not_eq_true', List.all_eq_true, Bool.or_eq_true] at hsc
  obtain ⟨⟨⟨⟨⟨⟨⟨⟨s1, s2⟩, s3⟩, s4⟩, s5⟩, s6⟩, s7⟩, s8⟩, s9⟩ := hsc
  have T : ExI G.P G.K C cc cda sc qual par fl := {
    oex := { cls := ⟨nm, q, N, bs, bm, sn, sub, ab, col, dd, k0, k1, k2, k3, k5, ol, rv⟩, sa := e10, exC := e11, tyC := e12, kC := e5 }
    fld := e6
    cod := e4
    fil := by
      unfold filB at e1
      split at e1
      · rename_i o ho
        obtain ⟨o1, o2, o3, o4⟩ := o
        dsimp only at e1
        split at e1
        · rename_i vs
          split at e1
          · rename_i y t hy
            exact ⟨_, _, _, _, _, _, ho, hy, e1⟩
          · cases e1
        · cases e1
      · cases e1
    cel := by
      unfold celB at e2
      split at e2
      · rename_i o ho
        obtain ⟨o1, o2, o3, o4⟩ := o
        dsimp only at e2
        split at e2
        · rename_i y
          obtain rfl := of_decide_eq_true e2
          exact ⟨_, _, _, ho⟩
        · cases e2
      · cases e2
    cls := by
      unfold supB at e3
      split at e3
      · rename_i cd hcd
        exact ⟨cd, hcd, of_decide_eq_true e3⟩
      · cases e3
    sub := e7
    suv := e8
    opq := e9
    top := top
    knd := s9
    sup := s1
    clf := s2
    slf := s3
    pal := s4
    oth := fun y hy => by
      rcases hy with h | h
      · exact absurd rfl (s5 _ (look_mem h)).1
      · exact (s5 _ (look_mem h)).2.elim (fun z => absurd rfl z) id
    npa := s6 }
  exact ⟨C, fI, _, par, 1, by decide, hC, hm, T.oex, e13, e14, exi_ok (k := 0) T lk hsup hbody hargs har (fun y hy => (s5 y hy).1) s7 s8 hec hs1 hs2 hst hin hdp hcp, hb⟩
end Mir
set_option maxHeartbeats 2000000
namespace Mir
open PySem PySem.Spec L2
open PyProof.Rows (envOfC)
abbrev SuT := Addr → Value → Option Addr → TS
inductive Clauses (Y : Cx) (n : Str) : List ExceptHandler → List (Value × SuT) → Prop
  | nil : Clauses Y n [] []
  | cons {y : Str} {cv : Value} {su : SuT} {st : Stmt} {sts : List Stmt} {py pq : Pos} {hl : List ExceptHandler} {cl : List (Value × SuT)} (nm : Names Y y cv)
      (ok : ∀ p ob cls d pn, L2N.Zn cls d ob → (∃ v, ob.data = .fields v) → PSs (Y.suite p ((p, ob) :: pn)) (st :: sts) (su p cls d)) (more : Clauses Y n hl cl) : Clauses Y n (.ExceptHandler (some (.Name y py)) (some n) (st :: sts) pq :: hl) ((cv, su) :: cl)
section
variable {Y : Cx} {n : Str} {i : Nat} {body : List Stmt} {h1 : ExceptHandler} {hl : List ExceptHandler} {cl : List (Value × SuT)} {pos : Pos} {tb : WX → TS} {out : WX}
end
section
variable {F : Fm} {Γ : Gam} {X Y S J : Type} {fx : X → Gam} {fy : Y → Gam} {fs : S → Gam} {fj : J → Gam} {x0 : X} {pos : Pos} {rest body suite1 suite2 : List Stmt} {b1' b2' : Stmt}
end
end Mir
namespace Mir
open PySem PySem.Spec L2
section
variable {α β γ X S T : Type}
@[simp] theorem bindC_ok {a : α} {x : X} {k : α → Ctl X S} : M.bindC (.ok a) x k = k a := id rfl
@[simp] theorem bindC_exn {e : Exc} {x : X} {k : α → Ctl X S} : M.bindC (.exn e) x k = .exn e x := id rfl
@[simp] theorem b1_ok {f : α → M β} {a : α} : b1 f (.ok a) = f a := id rfl
@[simp] theorem b2_ok {f : α → β → M γ} {a : α} {b : β} : b2 f (.ok a) (.ok b) = f a b := id rfl
@[simp] theorem bind_ok {a : α} {k : α → M β} : M.bind (.ok a) k = k a := id rfl
@[simp] theorem mlist_nil : mlist ([] : List (M α)) = .ok [] := id rfl
@[simp] theorem mlist_cons {a : α} {l : List (M α)} : mlist (.ok a :: l) = (mlist l).bind fun r => .ok (a :: r) := id rfl
@[simp] theorem ctl_nx {s : S} {k : S → Ctl X T} : Ctl.bind (.nx s) k = k s := id rfl
@[simp] theorem ctl_ret {d : D} {k : S → Ctl X T} : Ctl.bind (.ret d) k = .ret d := id rfl
@[simp] theorem ctl_exn {e : Exc} {x : X} {k : S → Ctl X T} : Ctl.bind (.exn e x) k = .exn e x := id rfl
@[simp] theorem andM_ok {c : Bool} {b : M Bool} : andM (.ok c) b = if c = true then b else .ok false := id rfl
@[simp] theorem orM_ok {c : Bool} {b : M Bool} : orM (.ok c) b = if c = true then .ok true else b := id rfl
@[simp] theorem notM_ok {c : Bool} : notM (.ok c) = .ok (!c) := id rfl
@[simp] theorem ifM_ok {c : Bool} {a b : M α} : ifM (.ok c) a b = if c = true then a else b := id rfl
@[simp] theorem isB_bl {b : Bool} : isB (.bl b) = .ok b := id rfl
@[simp] theorem toM_ret {d : D} : Ctl.toM (.ret d : Ctl X S) = .ok d := id rfl
@[simp] theorem toM_nx {s : S} : Ctl.toM (.nx s : Ctl X S) = .ok .non := id rfl
@[simp] theorem toM_exn {e : Exc} {x : X} : Ctl.toM (.exn e x : Ctl X S) = .exn e := id rfl
@[simp] theorem ofOpt_some {a : α} : ofOpt (some a) = .ok a := id rfl
end
section
variable {a b : Int}
@[simp] theorem add_ii : pyAdd (.int a) (.int b) = .ok (.int (a + b)) := id rfl
@[simp] theorem sub_ii : pySub (.int a) (.int b) = .ok (.int (a - b)) := id rfl
@[simp] theorem neg_i : pyNeg (.int a) = .ok (.int (-a)) := id rfl
@[simp] theorem lt_ii : pyLt (.int a) (.int b) = .ok (.bl (decide (a < b))) := id rfl
@[simp] theorem le_ii : pyLe (.int a) (.int b) = .ok (.bl (decide (a ≤ b))) := id rfl
@[simp] theorem gt_ii : pyGt (.int a) (.int b) = .ok (.bl (decide (b < a))) := id rfl
@[simp] theorem ge_ii : pyGe (.int a) (.int b) = .ok (.bl (decide (b ≤ a))) := id rfl
@[simp] theorem eq_ii : pyEq (.int a) (.int b) = .ok (.bl (decide (a = b))) := id rfl
@[simp] theorem ne_ii : pyNe (.int a) (.int b) = .ok (.bl (!decide (a = b))) := id rfl
@[simp] theorem int_i : pyInt [.int a] = .ok (.int a) := id rfl
@[simp] theorem int_b {c : Bool} : pyInt [.bl c] = .ok (.int (if c then 1 else 0)) := id rfl
theorem gt_t (h : b < a) : pyGt (.int a) (.int b) = .ok (.bl true) := by rw [gt_ii, decide_eq_true h]
theorem gt_f (h : ¬ b < a) : pyGt (.int a) (.int b) = .ok (.bl false) := by rw [gt_ii, decide_eq_false h]
theorem ne_f (h : a = b) : pyNe (.int a) (.int b) = .ok (.bl false) := by rw [ne_ii, decide_eq_true h]; rfl
theorem mul_ii (h : (-(2 ^ 64) < a ∧ a < 2 ^ 64) ∨ (-(2 ^ 64) < b ∧ b < 2 ^ 64)) : pyMul (.int a) (.int b) = .ok (.int (a * b)) := if_pos h
theorem mod_ii (h : 0 < b) : pyMod (.int a) (.int b) = .ok (.int (a % b)) := if_pos h
theorem div_ii (h : 0 < b ∧ b < 1073741824) : pyDiv (.int a) (.int b) = .ok (.int (a / b)) := if_pos h
theorem range_i (h : -(2 ^ 62) ≤ a ∧ a < 2 ^ 62) : pyRange1 [.int a] = .ok (rangeD 0 a.toNat) := if_pos h
end
theorem unL3_at {α : Type} {z : α} {a b c : D} {k : D → D → D → α} : unL3 z [a, b, c] k = k a b c := id rfl
theorem un3_t {α : Type} {z : α} {a b c : D} {k : D → D → D → α} : un3 z (.tup [a, b, c]) k = k a b c := id rfl
theorem un4_l {α : Type} {z : α} {a b c d : D} {k : D → D → D → D → α} : un4 z (.lst [a, b, c, d]) k = k a b c d := id rfl
section
variable {X S : Type}
theorem forC_inv {f : D → S → Ctl X S} (Inv : Nat → S → Prop) : ∀ {ds : List D} {i : Nat} {s : S}, (∀ (j : Nat) d s, ds[j]? = some d → Inv (i + j) s → ∃ s', f d s = .nx s' ∧ Inv (i + j + 1) s') → Inv i s → ∃ s', forC f ds s = .nx s' ∧ Inv (i + ds.length) s'
  | [], i, s, _, h0 => ⟨s, rfl, h0⟩
  | d :: ds, i, s, h, h0 => by
    obtain ⟨s1, e1, h1⟩ := h 0 d s rfl h0
    obtain ⟨s2, e2, h2⟩ := forC_inv Inv (ds := ds) (i := i + 1) (s := s1) (fun j d s hj hi => by
      have := h (j + 1) d s (by simpa using hj) (by rw [← Nat.add_assoc, Nat.add_right_comm]; exact hi)
      rw [show i + 1 + j + 1 = i + (j + 1) + 1 by omega]
      exact this) h1
    refine ⟨s2, ?_, by rw [List.length_cons]; rw [show i + (ds.length + 1) = i + 1 + ds.length by omega]; exact h2⟩
    show (f d s).bind (forC f ds) = _
    rw [e1]
    exact e2
theorem range_at {lo : Int} {n j : Nat} {d : D} (h : (rangeD lo n)[j]? = some d) : j < n ∧ d = .int (lo + j) := by
  unfold rangeD at h
  rw [List.getElem?_map] at h
  by_cases hj : j < n
  · rw [List.getElem?_range hj] at h
    cases h
    exact ⟨hj, rfl⟩
  · rw [List.getElem?_eq_none (by simpa using hj)] at h
    cases h
theorem range_len {lo : Int} {n : Nat} : (rangeD lo n).length = n := by unfold rangeD; simp
theorem forR_inv {f : D → S → Ctl X S} {n : Nat} {s : S} (Inv : Nat → S → Prop) (h : ∀ (j : Nat) s, j < n → Inv j s → ∃ s', f (.int j) s = .nx s' ∧ Inv (j + 1) s') (h0 : Inv 0 s) : ∃ s', forC f (rangeD 0 n) s = .nx s' ∧ Inv n s' := by
  obtain ⟨s', e, q⟩ := forC_inv Inv (f := f) (ds := rangeD 0 n) (i := 0) (s := s) (fun j d s hj hi => by
    obtain ⟨hl, rfl⟩ := range_at hj
    rw [Nat.zero_add] at hi ⊢
    rw [Int.zero_add]
    exact h j s hl hi) h0
  rw [range_len, Nat.zero_add] at q
  exact ⟨s', e, q⟩
end
section
variable {X S T : Type}
def RetIs (c : Ctl X S) (R : D → Prop) : Prop := ∃ d, c = .ret d ∧ R d
def NxIs (c : Ctl X S) (R : S → Prop) : Prop := ∃ s, c = .nx s ∧ R s
theorem RetIs.mk {d : D} {R : D → Prop} (h : R d) : RetIs (.ret d : Ctl X S) R := ⟨d, rfl, h⟩
theorem NxIs.mk {s : S} {R : S → Prop} (h : R s) : NxIs (.nx s : Ctl X S) R := ⟨s, rfl, h⟩
theorem NxIs.ret {c : Ctl X S} {k : S → Ctl X T} {P : S → Prop} {R : D → Prop} (h : NxIs c P) (hk : ∀ s, P s → RetIs (k s) R) : RetIs (c.bind k) R := by
  obtain ⟨s, rfl, p⟩ := h
  exact hk s p
theorem NxIs.nx {c : Ctl X S} {k : S → Ctl X T} {P : S → Prop} {R : T → Prop} (h : NxIs c P) (hk : ∀ s, P s → NxIs (k s) R) : NxIs (c.bind k) R := by
  obtain ⟨s, rfl, p⟩ := h
  exact hk s p
theorem loop_nx {f : D → S → Ctl X S} {ds : List D} {s : S} (Inv : Nat → S → Prop) (h0 : Inv 0 s) (h : ∀ (j : Nat) d s, ds[j]? = some d → Inv j s → NxIs (f d s) (Inv (j + 1))) : NxIs (forC f ds s) (Inv ds.length) := by
  obtain ⟨s', e, q⟩ := forC_inv Inv (f := f) (ds := ds) (i := 0) (s := s) (fun j d s hj hi => by rw [Nat.zero_add] at hi ⊢; exact h j d s hj hi) h0
  rw [Nat.zero_add] at q
  exact ⟨s', e, q⟩
theorem loopR_nx {f : D → S → Ctl X S} {n : Nat} {s : S} (Inv : Nat → S → Prop) (h0 : Inv 0 s) (h : ∀ (j : Nat) s, j < n → Inv j s → NxIs (f (.int j) s) (Inv (j + 1))) : NxIs (forC f (rangeD 0 n) s) (Inv n) := forR_inv Inv (fun j s hj hi => h j s hj hi) h0
end
def outF {X S : Type} (s : S) : Option D → Ctl X S
  | some r => .ret r
  | none => .nx s
section
variable {X S : Type}
theorem loopM_find {α : Type} {f : D → Unit → Ctl X Unit} (h : α → D) (g : α → Option D) : ∀ {xs : List α}, (∀ x ∈ xs, f (h x) () = outF () (g x)) → forC f (xs.map h) () = outF () (xs.findSome? g)
  | [], _ => rfl
  | x :: xs, k => by
    show (f (h x) ()).bind (forC f (xs.map h)) = _
    rw [k x (by simp), List.findSome?_cons]
    cases g x with
    | some r => rfl
    | none => exact loopM_find h g fun e he => k e (by simp [he])
theorem rangeD_map (n : Nat) : rangeD 0 n = (List.range n).map fun j : Nat => D.int j := by
  unfold rangeD
  simp
theorem loopR_find {f : D → Unit → Ctl X Unit} {n : Nat} (g : Nat → Option D) (h : ∀ j : Nat, j < n → f (.int j) () = outF () (g j)) : forC f (rangeD 0 n) () = outF () ((List.range n).findSome? g) := by
  rw [rangeD_map]
  exact loopM_find _ g fun x hx => h x (List.mem_range.mp hx)
theorem loop_st {f : D → S → Ctl X S} : ∀ {ds : List D} (g : Nat → S), (∀ (j : Nat) d, ds[j]? = some d → f d (g j) = .nx (g (j + 1))) → forC f ds (g 0) = .nx (g ds.length)
  | [], _, _ => rfl
  | d :: ds, g, h => by
    show (f d (g 0)).bind (forC f ds) = _
    rw [h 0 d rfl]
    exact loop_st (fun j => g (j + 1)) fun j d hj => h (j + 1) d (by simpa using hj)
theorem loopR_st {f : D → S → Ctl X S} {n : Nat} (g : Nat → S) (h : ∀ j : Nat, j < n → f (.int j) (g j) = .nx (g (j + 1))) : forC f (rangeD 0 n) (g 0) = .nx (g n) := by
  have := loop_st (f := f) (ds := rangeD 0 n) g fun j d hj => by
    obtain ⟨hl, rfl⟩ := range_at hj
    rw [Int.zero_add]
    exact h j hl
  rw [range_len] at this
  exact this
@[simp] theorem outF_some {r : D} {s : S} : (outF s (some r) : Ctl X S) = .ret r := id rfl
@[simp] theorem outF_none {s : S} : (outF s none : Ctl X S) = .nx s := id rfl
end
theorem compL_map {α : Type} {f : D → M (List D)} (h : α → D) (g : α → List D) : ∀ {xs : List α}, (∀ x ∈ xs, f (h x) = .ok (g x)) → compL f (xs.map h) = .ok (xs.flatMap g)
  | [], _ => rfl
  | x :: xs, k => by
    show (f (h x)).bind (fun ys => (compL f (xs.map h)).bind fun r => .ok (ys ++ r)) = _
    rw [k x (by simp), compL_map h g fun e he => k e (by simp [he])]
    rfl
theorem compR {f : D → M (List D)} {n : Nat} (g : Nat → List D) (h : ∀ j : Nat, j < n → f (.int j) = .ok (g j)) : compL f (rangeD 0 n) = .ok ((List.range n).flatMap g) := by
  rw [rangeD_map]
  exact compL_map _ g fun x hx => h x (List.mem_range.mp hx)
theorem sz_big {n : Nat} (h : n < 1000000) : n < sizeLine := by rw [sizeLine_eq]; omega
theorem lcM_ok {i : M (List D)} {f : D → M (List D)} {ds r : List D} (hi : i = .ok ds) (h : compL f ds = .ok r) (hl : r.length < 1000000) : lcM i f = .ok (.lst r) := by
  unfold lcM
  rw [hi]
  show ((compL f ds).nox).bind mkLst = _
  rw [h]
  show mkLst r = _
  unfold mkLst
  rw [if_pos (Nat.le_of_lt (sz_big hl))]
theorem elM_t {e : M D} {d : D} (h : e = .ok d) : elM (.ok true) e = .ok [d] := by rw [h]; rfl
theorem elM_f {e : M D} : elM (.ok false) e = .ok [] := rfl
theorem inM_t {i : M (List D)} {f : D → M (List D)} {ds : List D} (h : i = .ok ds) : inM (.ok true) i f = compL f ds := by rw [h]; rfl
theorem tup_ok {ds : List D} (h : ds.length < 1000000) : mkTup ds = .ok (.tup ds) := if_pos (Nat.le_of_lt (sz_big h))
theorem lst_ok {ds : List D} (h : ds.length < 1000000) : mkLst ds = .ok (.lst ds) := if_pos (Nat.le_of_lt (sz_big h))
theorem tup2 {a b : D} : b1 mkTup (mlist [.ok a, .ok b]) = .ok (.tup [a, b]) := show mkTup [a, b] = _ from tup_ok (by simp)
theorem tup3 {a b c : D} : b1 mkTup (mlist [.ok a, .ok b, .ok c]) = .ok (.tup [a, b, c]) := show mkTup [a, b, c] = _ from tup_ok (by simp)
theorem tup4 {a b c d : D} : b1 mkTup (mlist [.ok a, .ok b, .ok c, .ok d]) = .ok (.tup [a, b, c, d]) := show mkTup [a, b, c, d] = _ from tup_ok (by simp)
theorem tup5 {a b c d e : D} : b1 mkTup (mlist [.ok a, .ok b, .ok c, .ok d, .ok e]) = .ok (.tup [a, b, c, d, e]) := show mkTup [a, b, c, d, e] = _ from tup_ok (by simp)
end Mir
namespace Mir
open PySem
open Sem (wp)
def ng : Frame → Bool
  | .gen _ _ _ _ _ => false
  | _ => true
theorem ng_split : ∀ {fs : List Frame}, fs.all ng = true → splitAtGen fs = none
  | [], _ => rfl
  | .gen _ _ _ _ _ :: _, h => by simp [ng] at h
  | .ret _ _ _ _ _ _ _ :: r, h => by
    have h2 : r.all ng = true := by
      rw [List.all_cons, Bool.and_eq_true] at h
      exact h.2
    show (splitAtGen r).map _ = none
    rw [ng_split h2]
    rfl
def ngs : GenState → Prop
  | .suspended _ _ _ _ fs _ => fs.all ng = true
  | _ => True
def nge : End → Prop
  | .susp _ _ _ _ _ _ fs => fs.all ng = true
  | _ => True
theorem nge_state {e : End} (h : nge e) : ngs e.genState := by
  cases e with
  | ret r => trivial
  | susp v g l k c p fs => exact h
def poi : GenState → GenState
  | .suspended _ l c p fs cl => .suspended (fun _ => .unsupported "asleep") l c p fs cl
  | x => x
def slp : GenState → Bool
  | .suspended _ _ _ _ _ _ => true
  | _ => false
theorem poi_bare (x : GenState) : (poi x).bare = x.bare := by cases x <;> rfl
theorem poi_seen (x : GenState) : (poi x).seen = x.seen := by cases x <;> rfl
inductive GE (o : Option GenState) : GenState → GenState → Prop
  | same {a : GenState} : ngs a → (∀ b, o = some b → slp b = false) → GE o a a
  | poi {b : GenState} : o = some b → slp b = true → GE o (poi b) b
structure GRel (G0 a b : Array GenState) : Prop where
  size : a.size = b.size
  big : G0.size ≤ a.size
  at_ : ∀ (i : Nat) x y, a[i]? = some x → b[i]? = some y → GE G0[i]? x y
theorem GRel.get {G0 a b : Array GenState} (r : GRel G0 a b) {i : Nat} {x : GenState} (h : a[i]? = some x) : ∃ y, b[i]? = some y ∧ GE G0[i]? x y := by
  have hi : i < b.size := by rw [← r.size]; exact (Array.getElem?_eq_some_iff.mp h).1
  exact ⟨b[i], Array.getElem?_eq_getElem hi, r.at_ i x _ h (Array.getElem?_eq_getElem hi)⟩
theorem GRel.set {G0 a b : Array GenState} (r : GRel G0 a b) {g : Nat} (hg : ∀ b, G0[g]? = some b → slp b = false) {z : GenState} (hz : ngs z) : GRel G0 (a.setIfInBounds g z) (b.setIfInBounds g z) := by
  refine ⟨by simp [r.size], by simpa using r.big, fun i x y h1 h2 => ?_⟩
  rw [Array.getElem?_setIfInBounds] at h1 h2
  by_cases e : g = i
  · rw [if_pos e] at h1 h2
    split at h1
    · rename_i q1
      have q2 : g < b.size := by rw [← r.size]; exact q1
      rw [if_pos q2] at h2
      cases h1; cases h2
      exact .same hz (by rw [← e]; exact hg)
    · cases h1
  · rw [if_neg e] at h1 h2
    exact r.at_ i x y h1 h2
theorem GRel.push {G0 a b : Array GenState} (r : GRel G0 a b) {z : GenState} (hz : ngs z) : GRel G0 (a.push z) (b.push z) := by
  refine ⟨by simp [r.size], Nat.le_trans r.big (by simp), fun i x y h1 h2 => ?_⟩
  rw [Array.getElem?_push] at h1 h2
  by_cases e : i = a.size
  · rw [if_pos e] at h1
    rw [if_pos (by rw [← r.size]; exact e)] at h2
    cases h1; cases h2
    have hb := r.big
    exact .same hz fun b q => absurd (Array.getElem?_eq_some_iff.mp q).1 (by omega)
  · rw [if_neg e] at h1
    rw [if_neg (by rw [← r.size]; exact e)] at h2
    exact r.at_ i x y h1 h2
theorem GRel.start (G0 : Array GenState) : GRel G0 (G0.map poi) G0 := by
  refine ⟨by simp, by simp, fun i x y h1 h2 => ?_⟩
  rw [Array.getElem?_map, h2] at h1
  cases h1
  cases y with
  | suspended k l c p fs cl => exact .poi h2 rfl
  | _ => exact .same trivial fun b q => by rw [h2] at q; cases q; rfl
theorem GRel.asleep {G0 a b : Array GenState} (r : GRel G0 a b) {i : Nat} {x : GenState} (h0 : G0[i]? = some x) (h : slp x = true) : b[i]? = some x := by
  have hi : i < a.size := Nat.lt_of_lt_of_le (Array.getElem?_eq_some_iff.mp h0).1 r.big
  obtain ⟨y, h1, h2⟩ := r.get (Array.getElem?_eq_getElem hi)
  generalize a[i] = u at h2
  cases h2 with
  | same _ q => exact absurd h (by rw [q x h0]; exact Bool.false_ne_true)
  | poi e _ => rw [h0] at e; cases e; exact h1
theorem GRel.bare {G0 a b : Array GenState} (r : GRel G0 a b) (h : ∀ x ∈ a, x.bare = true) : ∀ x ∈ b, x.bare = true := by
  intro y hy
  obtain ⟨i, hi, rfl⟩ := Array.mem_iff_getElem.mp hy
  have hi' : i < a.size := by rw [r.size]; exact hi
  have hx := h a[i] (Array.getElem_mem hi')
  have q := r.at_ i a[i] b[i] (Array.getElem?_eq_getElem hi') (Array.getElem?_eq_getElem hi)
  generalize a[i] = u at q hx
  generalize b[i] = v at q
  cases q with
  | same _ _ => exact hx
  | poi _ _ => rw [poi_bare] at hx; exact hx
theorem GE.fresh {o : Option GenState} {c : Code} {y : GenState} (h : GE o (.fresh c) y) : y = .fresh c ∧ ∀ b, o = some b → slp b = false := by
  generalize e : GenState.fresh c = z at h
  cases h with
  | same _ q => exact ⟨rfl, q⟩
  | poi _ hs => cases y with
    | suspended _ _ _ _ _ _ => cases e
    | _ => cases hs
theorem GE.running {o : Option GenState} {y : GenState} (h : GE o .running y) : y = .running := by
  generalize e : GenState.running = z at h
  cases h with
  | same _ _ => exact rfl
  | poi _ hs => cases y with
    | suspended _ _ _ _ _ _ => cases e
    | _ => cases hs
theorem GE.finished {o : Option GenState} {y : GenState} (h : GE o .finished y) : y = .finished := by
  generalize e : GenState.finished = z at h
  cases h with
  | same _ _ => exact rfl
  | poi _ hs => cases y with
    | suspended _ _ _ _ _ _ => cases e
    | _ => cases hs
theorem GE.asleep {o : Option GenState} {k : Resume → Sem PySem.Fin} {l : List Value} {c : Code} {p : Pos} {fs : List Frame} {cl : Bool} {y : GenState} (h : GE o (.suspended k l c p fs cl) y) : (y = .suspended k l c p fs cl ∧ fs.all ng = true ∧ ∀ b, o = some b → slp b = false) ∨ k = fun _ => .unsupported "asleep" := by
  generalize e : GenState.suspended k l c p fs cl = z at h
  cases h with
  | same q q2 => subst e; exact .inl ⟨rfl, q, q2⟩
  | poi _ hs =>
    cases y with
    | suspended k' l' c' p' fs' cl' => cases e; exact .inr rfl
    | _ => cases hs
theorem GE.seen {o : Option GenState} {x y : GenState} (h : GE o x y) : x.seen = y.seen := by
  cases h with
  | same _ _ => rfl
  | poi _ _ => exact poi_seen _
theorem runs_never {M : Model} {Γ : Ctx} {p : Pos} {t : Sem PySem.Fin} {fs : List Frame} {s s' : Shared} {e : End} (h : Runs M Γ p t fs s e s') : ∀ w, t ≠ .unsupported w := by
  induction h with
  | segRet _ _ ih _ => exact ih
  | segGen _ _ ih _ => exact ih
  | segSuspOut _ _ ih => exact ih
  | segSuspGen _ _ _ _ ih _ => exact ih
  | _ => intro w e; cases e
theorem runs_rel {M : Model} {G0 : Array GenState} {Γ : Ctx} {p : Pos} {t : Sem PySem.Fin} {fs : List Frame} {s s' : Shared} {e : End} (h : Runs M Γ p t fs s e s') :
    fs.all ng = true → ∀ G, GRel G0 s.gens G → ∃ G', Runs M Γ p t fs { s with gens := G } e { s' with gens := G' } ∧ GRel G0 s'.gens G' ∧ nge e := by
  induction h with
  | done => intro _ G r; exact ⟨G, .done, r, trivial⟩
  | raise => intro _ G r; exact ⟨G, .raise, r, trivial⟩
  | again hq _ ih => intro hn G r; obtain ⟨G', a, b, c⟩ := ih hn G r; exact ⟨G', .again hq a, b, c⟩
  | rule _ ih => intro hn G r; obtain ⟨G', a, b, c⟩ := ih hn G r; exact ⟨G', .rule a, b, c⟩
  | «at» _ ih => intro hn G r; obtain ⟨G', a, b, c⟩ := ih hn G r; exact ⟨G', .at a, b, c⟩
  | load ho _ ih => intro hn G r; obtain ⟨G', a, b, c⟩ := ih hn G r; exact ⟨G', .load ho a, b, c⟩
  | update ho _ ih => intro hn G r; obtain ⟨G', a, b, c⟩ := ih hn G r; exact ⟨G', .update ho a, b, c⟩
  | loadIfAlive _ ih => intro hn G r; obtain ⟨G', a, b, c⟩ := ih hn G r; exact ⟨G', .loadIfAlive a, b, c⟩
  | point _ ih => intro hn G r; obtain ⟨G', a, b, c⟩ := ih hn G r; exact ⟨G', .point a, b, c⟩
  | alloc _ ih => intro hn G r; obtain ⟨G', a, b, c⟩ := ih hn G r; exact ⟨G', .alloc a, b, c⟩
  | fresh _ ih => intro hn G r; obtain ⟨G', a, b, c⟩ := ih hn G r; exact ⟨G', .fresh a, b, c⟩
  | ask _ ih => intro hn G r; obtain ⟨G', a, b, c⟩ := ih hn G r; exact ⟨G', .ask a, b, c⟩
  | choose hz _ ih => intro hn G r; obtain ⟨G', a, b, c⟩ := ih hn G r; exact ⟨G', .choose hz a, b, c⟩
  | os _ ih => intro hn G r; obtain ⟨G', a, b, c⟩ := ih hn G r; exact ⟨G', .os a, b, c⟩
  | handled _ ih => intro hn G r; obtain ⟨G', a, b, c⟩ := ih hn G r; exact ⟨G', .handled a, b, c⟩
  | stack _ ih => intro hn G r; obtain ⟨G', a, b, c⟩ := ih hn G r; exact ⟨G', .stack a, b, c⟩
  | thread _ ih => intro hn G r; obtain ⟨G', a, b, c⟩ := ih hn G r; exact ⟨G', .thread a, b, c⟩
  | genState hg _ ih =>
    intro hn G r
    obtain ⟨y, h1, h2⟩ := r.get hg
    obtain ⟨G', a, b, c⟩ := ih hn G r
    rw [h2.seen] at a
    exact ⟨G', .genState h1 a, b, c⟩
  | newGen _ ih =>
    intro hn G r
    obtain ⟨G', a, b, c⟩ := ih hn (G.push (.fresh _)) (r.push trivial)
    rw [r.size] at a
    exact ⟨G', .newGen a, b, c⟩
  | call _ _ ih1 ih2 =>
    intro hn G r
    obtain ⟨G1, a1, b1, _⟩ := ih1 rfl G r
    obtain ⟨G2, a2, b2, c2⟩ := ih2 hn G1 b1
    exact ⟨G2, .call a1 a2, b2, c2⟩
  | callSusp _ ih =>
    intro hn G r
    obtain ⟨G1, a1, b1, c1⟩ := ih rfl G r
    refine ⟨G1, .callSusp a1, b1, ?_⟩
    have c1 : List.all _ ng = true := c1
    show List.all (_ ++ _) ng = true
    rw [List.all_append, c1]
    rfl
  | yield => intro _ G r; exact ⟨G, .yield, r, rfl⟩
  | @resumeFresh Γ p g l k s c e₁ s₁ e s' hg _ hq _ ih1 ih2 =>
    intro hn G r
    obtain ⟨y, h1, h2⟩ := r.get hg
    obtain ⟨rfl, nz⟩ := h2.fresh
    obtain ⟨G1, a1, b1, c1⟩ := ih1 rfl _ (r.set nz (z := .running) trivial)
    obtain ⟨G2, a2, b2, c2⟩ := ih2 hn _ (b1.set nz (nge_state c1))
    exact ⟨G2, .resumeFresh h1 a1 hq a2, b2, c2⟩
  | @resumeSuspended Γ p g r l k s k₀ l₀ c₀ p₀ fs cl e₁ s₁ e s' hg hr hq _ ih1 ih2 =>
    intro hn G r
    obtain ⟨y, h1, h2⟩ := r.get hg
    rcases h2.asleep with ⟨rfl, hf, nz⟩ | z
    · obtain ⟨G1, a1, b1, c1⟩ := ih1 hf _ (r.set nz (z := .running) trivial)
      obtain ⟨G2, a2, b2, c2⟩ := ih2 hn _ (b1.set nz (nge_state c1))
      exact ⟨G2, .resumeSuspended h1 a1 hq a2, b2, c2⟩
    · rw [z] at hr
      exact absurd rfl (runs_never hr "asleep")
  | resumeJustStarted hg hv _ ih =>
    intro hn G r
    obtain ⟨y, h1, h2⟩ := r.get hg
    obtain ⟨rfl, nz⟩ := h2.fresh
    obtain ⟨G', a, b, c⟩ := ih hn G r
    exact ⟨G', .resumeJustStarted h1 hv a, b, c⟩
  | resumeThrowFresh hg _ ih =>
    intro hn G r
    obtain ⟨y, h1, h2⟩ := r.get hg
    obtain ⟨rfl, nz⟩ := h2.fresh
    obtain ⟨G', a, b, c⟩ := ih hn _ (r.set nz (z := .finished) trivial)
    exact ⟨G', .resumeThrowFresh h1 a, b, c⟩
  | resumeRunning hg _ ih =>
    intro hn G r
    obtain ⟨y, h1, h2⟩ := r.get hg
    cases h2.running
    obtain ⟨G', a, b, c⟩ := ih hn G r
    exact ⟨G', .resumeRunning h1 a, b, c⟩
  | resumeFinished hg _ ih =>
    intro hn G r
    obtain ⟨y, h1, h2⟩ := r.get hg
    cases h2.finished
    obtain ⟨G', a, b, c⟩ := ih hn G r
    exact ⟨G', .resumeFinished h1 a, b, c⟩
  | segRet _ _ ih1 ih2 =>
    intro hn G r
    rw [List.all_cons, Bool.and_eq_true] at hn
    obtain ⟨G1, a1, b1, _⟩ := ih1 rfl G r
    obtain ⟨G2, a2, b2, c2⟩ := ih2 hn.2 G1 b1
    exact ⟨G2, .segRet a1 a2, b2, c2⟩
  | segGen _ _ _ _ =>
    intro hn
    rw [List.all_cons, Bool.and_eq_true] at hn
    exact nomatch hn.1
  | segSuspOut hs _ ih =>
    intro hn G r
    obtain ⟨G1, a1, b1, c1⟩ := ih rfl G r
    refine ⟨G1, .segSuspOut hs a1, b1, ?_⟩
    have c1 : List.all _ ng = true := c1
    show List.all (_ ++ _) ng = true
    rw [List.all_append, c1, hn]
    rfl
  | segSuspGen hs _ _ _ _ _ =>
    intro hn
    rw [ng_split hn] at hs
    cases hs
theorem wp_rel {α : Type} {M : Model} {Γ : Ctx} {G0 : Array GenState} (t : Sem α) : ∀ (Q : α → Pos → Shared → Prop) (E : Value → Pos → Shared → Prop) (p : Pos) (s : Shared) (G : Array GenState), GRel G0 s.gens G → wp M Γ t Q E p s →
    wp M Γ t (fun a p' s' => ∃ s1 : Shared, Q a p' s1 ∧ GRel G0 s1.gens s'.gens ∧ s' = { s1 with gens := s'.gens }) (fun e p' s' => ∃ s1 : Shared, E e p' s1 ∧ GRel G0 s1.gens s'.gens ∧ s' = { s1 with gens := s'.gens }) p { s with gens := G } := by
  induction t with
  | pure a => intro Q E p s G r h; exact ⟨s, h, r, rfl⟩
  | raise e => intro Q E p s G r h; exact ⟨s, h, r, rfl⟩
  | unsupported _ => intro Q E p s G _ h; exact h
  | finish _ => intro Q E p s G _ h; exact h
  | rule _ k ih => intro Q E p s G r h; exact ih () Q E p s G r h
  | «at» p' k ih => intro Q E p s G r h; exact ih () Q E p' s G r h
  | load a _ k ih => intro Q E p s G r h; obtain ⟨o, ho, h⟩ := h; exact ⟨o, ho, ih o Q E p s G r h⟩
  | update a _ f k ih => intro Q E p s G r h; exact ⟨h.1, ih () Q E p { s with heap := s.heap.update a f } G r h.2⟩
  | loadIfAlive a k ih => intro Q E p s G r h; exact ih _ Q E p s G r h
  | point _ k ih => intro Q E p s G r h; exact ih () Q E p s G r h
  | register _ _ => intro Q E p s G _ h; exact h
  | alloc o k ih => intro Q E p s G r h; exact ih _ Q E p { s with heap := s.heap.push o } G r h
  | fresh k ih => intro Q E p s G r h; exact ih _ Q E p { s with toks := s.toks + 1 } G r h
  | ask k ih => intro Q E p s G r h; exact ih _ Q E p s G r h
  | choose src m k ih => intro Q E p s G r h; exact ⟨h.1, ih _ Q E p { s with drawn := s.drawn.bump src } G r h.2⟩
  | os q _ k ih => intro Q E p s G r h; exact ih _ Q E p { s with os := (Os.step s.os q).1 } G r h
  | call c hd _ _ k ih =>
    intro Q E p s G r h
    obtain ⟨res, s', hr, h⟩ := h
    obtain ⟨G', a, b, _⟩ := runs_rel (G0 := G0) hr rfl G r
    exact ⟨res, { s' with gens := G' }, a, ih res Q E p s' G' b h⟩
  | handled own k ih => intro Q E p s G r h; exact ih _ Q E p s G r h
  | genState g k ih =>
    intro Q E p s G r h
    obtain ⟨st, hs, h⟩ := h
    obtain ⟨y, h1, h2⟩ := r.get hs
    rw [h2.seen] at h
    exact ⟨y, h1, ih _ Q E p s G r h⟩
  | newGen c k ih =>
    intro Q E p s G r h
    have q := ih _ Q E p { s with gens := s.gens.push (.fresh c) } (G.push (.fresh c)) (r.push trivial) h
    rw [r.size] at q
    exact q
  | resume g rs l k ih =>
    intro Q E p s G r h
    obtain ⟨res, s', hw, h⟩ := h
    have main : ∃ G', Wakes M Γ p g rs { s with gens := G } res { s' with gens := G' } ∧ GRel G0 s'.gens G' := by
      unfold Wakes at hw ⊢
      cases hg : s.gens[g]? with
      | none => rw [hg] at hw; exact hw.elim
      | some x =>
        obtain ⟨y, h1, h2⟩ := r.get hg
        rw [hg] at hw
        show ∃ G', (match G[g]? with | none => _ | some (.fresh c) => _ | some (.suspended k₀ _ c₀ p₀ fs _) => _ | some .running => _ | some .finished => _) ∧ _
        cases x with
        | fresh c =>
          obtain ⟨rfl, nz⟩ := h2.fresh
          simp only [h1]
          cases rs with
          | send v =>
            cases v with
            | none =>
              obtain ⟨e₁, s₁, hr, hq, e2, e3⟩ := hw
              obtain ⟨G1, a1, b1, c1⟩ := runs_rel (G0 := G0) hr rfl _ (r.set nz (z := .running) trivial)
              subst e3
              exact ⟨_, ⟨e₁, _, a1, hq, e2, rfl⟩, b1.set nz (nge_state c1)⟩
            | _ =>
              obtain ⟨e2, e3⟩ := hw
              subst e3
              exact ⟨G, ⟨e2, rfl⟩, r⟩
          | throw v =>
            obtain ⟨e2, e3⟩ := hw
            subst e3
            exact ⟨_, ⟨e2, rfl⟩, r.set nz (z := .finished) trivial⟩
        | running =>
          cases h2.running
          simp only [h1]
          obtain ⟨e2, e3⟩ := hw
          subst e3
          exact ⟨G, ⟨e2, rfl⟩, r⟩
        | finished =>
          cases h2.finished
          simp only [h1]
          obtain ⟨e2, e3⟩ := hw
          subst e3
          exact ⟨G, ⟨e2, rfl⟩, r⟩
        | suspended k₀ l₀ c₀ p₀ fs cl =>
          obtain ⟨e₁, s₁, hr, hq, e2, e3⟩ := hw
          rcases h2.asleep with ⟨rfl, hf, nz⟩ | z
          · simp only [h1]
            obtain ⟨G1, a1, b1, c1⟩ := runs_rel (G0 := G0) hr hf _ (r.set nz (z := .running) trivial)
            subst e3
            exact ⟨_, ⟨e₁, _, a1, hq, e2, rfl⟩, b1.set nz (nge_state c1)⟩
          · rw [z] at hr
            exact absurd rfl (runs_never hr "asleep")
    obtain ⟨G', a, b⟩ := main
    exact ⟨res, { s' with gens := G' }, a, ih res Q E p s' G' b h⟩
  | yield _ _ _ _ => intro Q E p s G _ h; exact h
  | stack k ih => intro Q E p s G r h; exact ih _ Q E p s G r h
  | fork _ _ => intro Q E p s G _ h; exact h
  | thread k ih => intro Q E p s G r h; exact ih _ Q E p s G r h
  | await _ _ _ _ _ => intro Q E p s G _ h; exact h
theorem wpAny_asleep {α : Type} {M : Model} {A : Around} {t : Sem α} {Q : α → Shared → Prop} {E : Value → Shared → Prop} {s : Shared} (h : wpAny M A t Q E { s with gens := s.gens.map poi }) :
    wpAny M A t (fun a s' => ∃ s1 : Shared, Q a s1 ∧ GRel s.gens s1.gens s'.gens ∧ s' = { s1 with gens := s'.gens }) (fun e s' => ∃ s1 : Shared, E e s1 ∧ GRel s.gens s1.gens s'.gens ∧ s' = { s1 with gens := s'.gens }) s := fun Γ p hΓ =>
  wp_rel (G0 := s.gens) t _ _ p { s with gens := s.gens.map poi } s.gens (GRel.start s.gens) (h Γ p hΓ)
end Mir
set_option maxHeartbeats 1000000
namespace Mir
open PySem
open Sem (wp)
def Sg (M : Model) (A : Around) (Φ : End → Shared → Prop) (c : Code) (t : Sem PySem.Fin) (fs : List Frame) (s : Shared) : Prop :=
  ∀ Γ p, Γ.code = c → Γ.Woken A → ∃ e s', Runs M Γ p t fs s e s' ∧ Φ e s'
section
variable {M : Model} {A : Around} {Φ : End → Shared → Prop} {c : Code} {fs : List Frame} {s : Shared}
theorem Sg.imp {Φ' : End → Shared → Prop} {t : Sem PySem.Fin} (h : Sg M A Φ c t fs s) (k : ∀ e s', Φ e s' → Φ' e s') : Sg M A Φ' c t fs s := fun Γ p hc hw =>
  let ⟨e, s', hr, hp⟩ := h Γ p hc hw
  ⟨e, s', hr, k e s' hp⟩
theorem sg_wrap {α : Type} {m : Sem α} {K : α → Sem PySem.Fin} {J : Value → Sem PySem.Fin} {gd : Bool → Bool} {lv : List Value → List Value}
    (h : wpAny M (A.over c fs) m (fun a s' => Sg M A Φ c (K a) fs s') (fun x s' => Sg M A Φ c (J x) fs s') s) : Sg M A Φ c (m.wrap K J gd lv) fs s := by
  intro Γ p hc hw
  subst hc
  exact runs_wrap_of_wp K J gd lv m (h (Γ.over fs) p (hw.over fs)) (fun a p' s' q => q Γ p' rfl hw) fun x p' s' q => q Γ p' rfl hw
theorem sg_bindw {α β : Type} {m : Sem α} {f : α → Sem β} {K : β → Sem PySem.Fin} {J : Value → Sem PySem.Fin} {gd : Bool → Bool} {lv : List Value → List Value}
    (h : wpAny M (A.over c fs) m (fun a s' => Sg M A Φ c ((f a).wrap K J gd lv) fs s') (fun x s' => Sg M A Φ c (J x) fs s') s) : Sg M A Φ c ((m >>= f).wrap K J gd lv) fs s := by
  rw [Sem.bind_eq_wrap', Sem.wrap_wrap]
  exact sg_wrap h
theorem sg_at {p' : Pos} {k : Unit → Sem PySem.Fin} (h : Sg M A Φ c (k ()) fs s) : Sg M A Φ c (.at p' k) fs s :=
  sg_wrap (m := standAt p') (K := k) (J := .raise) (gd := id) (lv := id) (wpAny_standAt h)
theorem sg_point {l : List Value} {k : Unit → Sem PySem.Fin} (h : Sg M A Φ c (k ()) fs s) : Sg M A Φ c (.point l k) fs s :=
  sg_wrap (m := point) (K := k) (J := .raise) (gd := id) (lv := fun _ => l) (wpAny_point h)
theorem sg_call {c' : Code} {h g l} {k : Result → Sem PySem.Fin} (hc : ∀ p, Sg M A Φ c' (M.den c') (.ret k h g l c p [] :: fs) s) : Sg M A Φ c (.call c' h g l k) fs s := by
  intro Γ p hq hw
  subst hq
  obtain ⟨e, s', hr, he⟩ := hc p (Γ.goto c') p rfl (hw.goto c')
  exact ⟨e, s', runs_call_seg hr, he⟩
theorem sg_leaf {k h g l c₁ p₁ kp} (r : Result) (hk : Sg M A Φ c₁ (k r) fs s) : Sg M A Φ c (leafOf r) (.ret k h g l c₁ p₁ kp :: fs) s := by
  intro Γ p hq hw
  subst hq
  obtain ⟨e, s', hr, he⟩ := hk (Γ.goto c₁) p₁ rfl (hw.goto c₁)
  exact ⟨e, s', Runs.pop r hr, he⟩
theorem sg_again {c' : Code} (hq : c'.quiet = true) (hc : Sg M A Φ c' (M.den c') fs s) : Sg M A Φ c (.pure (.again c')) fs s := by
  intro Γ p hz hw
  subst hz
  obtain ⟨e, s', hr, he⟩ := hc (Γ.goto c') p rfl (hw.goto c')
  exact ⟨e, s', Runs.head (c₁ := c') (fun _ _ x => .again hq x) hr, he⟩
theorem sg_end (r : Result) (h : Φ (.ret r) s) : Sg M A Φ c (leafOf r) [] s := by
  intro Γ p hq hw
  exact ⟨.ret r, s, Runs.leaf r, h⟩
theorem sg_yield {v g l} {k : Resume → Sem PySem.Fin} (hfs : splitAtGen fs = none) (h : ∀ p, Φ (.susp v g l k c p fs) s) : Sg M A Φ c (.yield v g l k) fs s := by
  intro Γ p hq hw
  subst hq
  exact ⟨_, s, Runs.yield' fs hfs, h p⟩
end
section
variable {M : Model} {A : Around} {Φ : End → Shared → Prop} {c : Code} {fs : List Frame} {s : Shared} {env : Env} {K : Flow → Sem PySem.Fin} {J : Value → Sem PySem.Fin} {gd : Bool → Bool} {lv : List Value → List Value}
theorem sg_nil (h : Sg M A Φ c (K .next) fs s) : Sg M A Φ c ((execs [] env).wrap K J gd lv) fs s := h
def andThen (rest : List Stmt) (env : Env) (K : Flow → Sem PySem.Fin) (J : Value → Sem PySem.Fin) (gd : Bool → Bool) (lv : List Value → List Value) : Flow → Sem PySem.Fin
  | .next => (execs rest env).wrap K J gd lv
  | f => K f
theorem sg_cons {st : Stmt} {rest : List Stmt} (h : Sg M A Φ c ((exec st env).wrap (andThen rest env K J gd lv) J gd lv) fs s) : Sg M A Φ c ((execs (st :: rest) env).wrap K J gd lv) fs s := by
  have e : (execs (st :: rest) env).wrap K J gd lv = (exec st env).wrap (andThen rest env K J gd lv) J gd lv := by
    rw [execs_cons, Sem.bind_eq_wrap', Sem.wrap_wrap]
    exact Sem.wrap_congr _ _ _ (fun f => by cases f <;> rfl) fun _ => rfl
  rw [e]
  exact h
theorem sg_yieldS {e : Expr} {yp pos : Pos} (hfs : splitAtGen fs = none) (hco : env.scope.isCoroutine = false) (hi : interactive env = false)
    (h : wpAny M (A.over c fs) (eval e env) (fun v s' => ∀ (l : List Value) (k : Resume → Sem PySem.Fin) (p : Pos), (∀ A' Φ' s'', Sg M A' Φ' c (K .next) fs s'' → Sg M A' Φ' c (k (.send .none)) fs s'') → Φ (.susp v (gd false) l k c p fs) s') (fun x s' => Sg M A Φ c (J x) fs s') s) :
    Sg M A Φ c ((exec (.Expr (.Yield (some e) yp) pos) env).wrap K J gd lv) fs s := by
  rw [exec_Expr env _ pos hi rfl]
  show Sg M A Φ c (.at pos fun _ => ((eval e env >>= fun v => (standAt yp >>= fun _ => yieldOut env v)) >>= fun x => dropValue (.Yield (some e) yp) pos x).wrap K J gd lv) fs s
  have hy : ∀ v, yieldOut env v = yieldValue v := fun v => by simp only [yieldOut, hco, Bool.false_eq_true, if_false]
  simp only [hy]
  refine sg_at ?_
  rw [Sem.bind_eq_wrap', Sem.bind_eq_wrap', Sem.wrap_wrap, Sem.wrap_wrap]
  refine sg_wrap (wpAny_mono h (fun v s' q => ?_) fun _ _ x => x)
  refine sg_at (sg_yield hfs fun p => ?_)
  exact q _ _ p fun A' Φ' s'' z => z
def loopEnd (env : Env) (K : Flow → Sem PySem.Fin) (J : Value → Sem PySem.Fin) (gd : Bool → Bool) (lv : List Value → List Value) : Result → Sem PySem.Fin := fun r =>
  ((match r with | .ok f => (.pure f : Sem Flow) | .error e => .raise e).onRaise (L2.cameBack env)).wrap K J gd lv
theorem sg_for {tg iter : Expr} {body : List Stmt} {pos : Pos} (hs : ∀ x, foldedSetIterable iter env x = pure x)
    (h : wpAny M (A.over c fs) (eval iter env) (fun x s1 => wpAny M (A.over c fs) (pyIter x) (fun itv s2 => ∀ p, Sg M A Φ (.forLoop tg itv body [] env) (M.den (.forLoop tg itv body [] env)) (.ret (loopEnd env K J gd lv) none (gd false) (lv []) c p [] :: fs) s2)
      (fun x s' => Sg M A Φ c (J x) fs s') s1) (fun x s' => Sg M A Φ c (J x) fs s') s) : Sg M A Φ c ((exec (.For tg iter body [] pos) env).wrap K J gd lv) fs s := by
  rw [exec_For]
  show Sg M A Φ c (.at pos fun _ => (eval iter env >>= fun x0 => foldedSetIterable iter env x0 >>= fun x => standAt iter.pos >>= fun _ => holding [x] (pyIter x) >>= fun itv => runOwn (.forLoop tg itv body [] env) env).wrap K J gd lv) fs s
  refine sg_at (sg_bindw (wpAny_mono h (fun x s1 h1 => ?_) fun _ _ q => q))
  rw [hs x]
  show Sg M A Φ c (.at iter.pos fun _ => (holding [x] (pyIter x) >>= fun itv => runOwn (.forLoop tg itv body [] env) env).wrap K J gd lv) fs s1
  refine sg_at (sg_bindw (wpAny_holding (wpAny_mono h1 (fun itv s2 h2 => ?_) fun _ _ q => q)))
  exact sg_call fun p => h2 p
end
section
variable {P : Program} {w : World} {A : Around} {Φ : End → Shared → Prop} {fs : List Frame} {s : Shared} {env : Env}
def loopExc (env : Env) (x : Value) : Sem PySem.Fin := (do noteFrame x env; theTreesLotGoes x : Sem Unit).wrap (fun _ => .raise x) .raise id id
def loopK (tg : Expr) (itv : Value) (body : List Stmt) (env : Env) : Flow → Sem PySem.Fin
  | .next => .pure (.again (.forLoop tg itv body [] env))
  | .cont => .pure (.again (.forLoop tg itv body [] env))
  | .brk => .pure (.done .next)
  | .ret v => .pure (.done (.ret v))
theorem sg_turn {tg : Expr} {itv : Value} {body : List Stmt}
    (h : wpAny (model P w) (A.over (.forLoop tg itv body [] env) fs) (pyNext itv) (fun r s1 => match r with
        | none => Sg (model P w) A Φ (.forLoop tg itv body [] env) (.pure (.again (.block [] env))) fs s1
        | some v => wpAny (model P w) (A.over (.forLoop tg itv body [] env) fs) (letOwnedTupleGo tg itv v) (fun _ s2 => wpAny (model P w) (A.over (.forLoop tg itv body [] env) fs) (assign tg env v) (fun _ s3 =>
            Sg (model P w) A Φ (.forLoop tg itv body [] env) ((execs body env).wrap (loopK tg itv body env) (loopExc env) id id) fs s3)
          (fun x s' => Sg (model P w) A Φ (.forLoop tg itv body [] env) (loopExc env x) fs s') s2) (fun x s' => Sg (model P w) A Φ (.forLoop tg itv body [] env) (loopExc env x) fs s') s1)
      (fun x s' => Sg (model P w) A Φ (.forLoop tg itv body [] env) (loopExc env x) fs s') s) :
    Sg (model P w) A Φ (.forLoop tg itv body [] env) ((model P w).den (.forLoop tg itv body [] env)) fs s := by
  have ex : ∀ x s', Sg (model P w) A Φ (.forLoop tg itv body [] env) (loopExc env x) fs s' → Sg (model P w) A Φ (.forLoop tg itv body [] env) ((do noteFrame x env; theTreesLotGoes x : Sem Unit).bind fun _ => .raise x) fs s' := fun x s' q => by
    rw [Sem.bind_eq_wrap]
    exact q
  show Sg _ A Φ _ ((forTurn tg itv body [] env).onRaise (fun x => do noteFrame x env; theTreesLotGoes x)) fs s
  unfold forTurn
  rw [Sem.onRaise_eq_wrap]
  show Sg _ A Φ _ (.at tg.pos fun _ => ((pyNext itv).onRaise (fun _ => standAt { tg.pos with line := 0 }) >>= fun r => _).wrap _ _ id id) fs s
  refine sg_at (sg_bindw (wpAny_onRaise (wpAny_mono h (fun r s1 h1 => ?_) fun x s' q => wpAny_standAt (ex x s' q))))
  cases r with
  | none => exact h1
  | some v =>
    refine sg_bindw (wpAny_mono h1 (fun _ s2 h2 => ?_) fun x s' q => ex x s' q)
    refine sg_bindw (wpAny_mono h2 (fun _ s3 h3 => ?_) fun x s' q => ex x s' q)
    rw [Sem.bind_eq_wrap', Sem.wrap_wrap]
    have e : ∀ (F : Flow → Sem PySem.Fin) (X : Value → Sem PySem.Fin), (∀ f, F f = loopK tg itv body env f) → (∀ x, X x = loopExc env x) → Sg (model P w) A Φ (.forLoop tg itv body [] env) ((execs body env).wrap F X id id) fs s3 := fun F X h1 h2 => by
      rw [Sem.wrap_congr _ _ _ h1 h2]
      exact h3
    exact e _ _ (fun f => by cases f <;> rfl) fun x => Sem.bind_eq_wrap _ _
theorem sg_func {body : List Stmt} (h : Sg (model P w) A Φ (.func body env) ((execs body env).wrap (fun f => .pure (.done (.ret (match f with | .ret v => v | _ => .none)))) (fun e => (leaving env e).wrap (fun _ => .raise e) .raise id id) id id) fs s) :
    Sg (model P w) A Φ (.func body env) ((model P w).den (.func body env)) fs s := by
  show Sg _ A Φ _ (.point [] fun _ => ((execs body env).onRaise (leaving env)) >>= _) fs s
  refine sg_point ?_
  rw [Sem.onRaise_eq_wrap, Sem.bind_eq_wrap', Sem.wrap_wrap]
  have e : ∀ (F : Flow → Sem PySem.Fin) (X : Value → Sem PySem.Fin), (∀ f, F f = .pure (.done (.ret (match f with | .ret v => v | _ => .none)))) → (∀ x, X x = (leaving env x).wrap (fun _ => .raise x) .raise id id) → Sg (model P w) A Φ (.func body env) ((execs body env).wrap F X id id) fs s := fun F X h1 h2 => by
    rw [Sem.wrap_congr _ _ _ h1 h2]
    exact h
  exact e _ _ (fun f => by cases f <;> rfl) fun x => by rw [Sem.bind_eq_wrap, Sem.wrap_wrap]; rfl
end
def Sleeps (M : Model) (A : Around) (Φ : End → Shared → Prop) (gs : GenState) (s : Shared) : Prop := match gs with
  | .fresh c => Sg M A Φ c (M.den c) [] s
  | .suspended k _ c _ fs _ => Sg M A Φ c (k (.send .none)) fs s
  | _ => False
def PEnd (F : Shared → Prop) (Er : Value → Shared → Prop) (Y : Value → GenState → Shared → Prop) : End → Shared → Prop
  | .ret (.ok f), s => (f = .ret .none ∨ f = .next) ∧ F s
  | .ret (.error e), s => Er e s
  | .susp v g l k c p fs, s => g = false ∧ fs.any Frame.guarded = false ∧ Y v (.suspended k l c p fs false) s
theorem wpAny_wake {M : Model} {A : Around} {Φ : End → Shared → Prop} {E : Value → Shared → Prop} {s : Shared} {g : Nat} {gs : GenState} {l : List Value} {α : Type} {k : GenResult → Sem α} {Q : α → Shared → Prop} (hg : s.gens[g]? = some gs)
    (hgo : Sleeps M A Φ gs (s.setGen g .running)) (hq : ∀ e s1, Φ e s1 → e.quiet = true) (h : ∀ e s1, Φ e s1 → wpAny M A (k e.result) Q E (s1.setGen g e.genState)) : wpAny M A (.resume g (.send .none) l k) Q E s := by
  intro Γ p hΓ
  rw [Sem.wp_resume]
  cases gs with
  | fresh c =>
    obtain ⟨e, s1, hr, he⟩ := hgo (Γ.wake c p) p rfl (hΓ.wake c p)
    refine ⟨_, _, ?_, h e s1 he Γ p hΓ⟩
    unfold Wakes
    rw [hg]
    exact ⟨e, s1, hr, hq e s1 he, rfl, rfl⟩
  | suspended k₀ l₀ c₀ p₀ fs₀ cl =>
    obtain ⟨e, s1, hr, he⟩ := hgo (Γ.wake c₀ p) p₀ rfl (hΓ.wake c₀ p)
    refine ⟨_, _, ?_, h e s1 he Γ p hΓ⟩
    unfold Wakes
    rw [hg]
    exact ⟨e, s1, hr, hq e s1 he, rfl, rfl⟩
  | running => exact hgo.elim
  | finished => exact hgo.elim
theorem wpAny_nextG {P : Program} {w : World} {A : Around} {E : Value → Shared → Prop} {s : Shared} {a : Addr} {g : Nat} {gs : GenState} {F : Shared → Prop} {Er : Value → Shared → Prop} {Y : Value → GenState → Shared → Prop} {Q : Option Value → Shared → Prop} (hh : A.handled = none)
    (hl : s.heap.NoLimit) (hroom : A.depth < recursionLimit) (hg : s.heap.IsGen a g) (hgs : s.gens[g]? = some gs) (hgo : Sleeps (model P w) A.in1 (PEnd F Er Y) gs (s.setGen g .running))
    (hY : ∀ v s1 gs', Y v gs' s1 → gs'.bare = true → slp gs' = true → Q (some v) (s1.setGen g gs')) (hP : ∀ s1, F s1 → ∀ h', (∀ b o, s1.heap.get? b = some o → h'.get? b = some o) → Q none { s1.setGen g .finished with heap := h' })
    (hE : ∀ e s1, Er e s1 → s1.heap.IsGen a g ∧ L2.NotStop (model P w) e s1.heap ∧ E e (s1.setGen g .finished)) : wpAny (model P w) A (pyNext (.ref a)) Q E s := by
  unfold pyNext
  refine wpAny_bind (wpAny_attempt (wpAny_callSpecial?_slot (name := Str.ofString "__next__") hg.typeIs slot_gen_next (wpAny_call_entry slot_gen_next hg.typeIs entry_gen_next ?_ (args_gen_next _))))
  show wpAny _ A.in1 (Builtin.Generator.genWake (.ref a) (.send .none)) _ _ s
  unfold Builtin.Generator.genWake
  refine wpAny_bind (wpAny_holding (wpAny_genNumber hg (wpAny_bind (wpAny_genState hgs ?_))))
  have quiet : ∀ e s1, PEnd F Er Y e s1 → e.quiet = true := fun e s1 q => by
    cases e with
    | ret r => rfl
    | susp v g' l k c p fs =>
      obtain ⟨q1, q2, _⟩ := q
      subst q1
      show (!(false || fs.any Frame.guarded)) = true
      rw [q2]; rfl
  cases gs with
  | running => exact hgo.elim
  | finished => exact hgo.elim
  | _ =>
    refine wpAny_bind (wpAny_roomToWake hl hroom ?_)
    show wpAny _ A.in1 (.resume g (.send .none) [] _) _ _ s
    refine wpAny_wake hgs hgo quiet fun e s1 he => ?_
    cases e with
    | susp v g' l k c p fs =>
      obtain ⟨q1, q2, q3⟩ := he
      subst q1
      have e1 : (End.susp v false l k c p fs).genState = .suspended k l c p fs false := by
        show GenState.suspended k l c p fs (false || fs.any Frame.guarded) = _
        rw [q2]; rfl
      rw [e1]
      exact wpAny_pure ⟨v, rfl, wpAny_pure (hY v s1 _ q3 rfl rfl)⟩
    | ret r =>
      cases r with
      | ok f =>
        obtain ⟨hf, hp⟩ := he
        have hres : End.result (.ret (.ok f)) = .returned .none := by
          rcases hf with hf | hf <;> rw [hf] <;> rfl
        first | rw [hres] | simp only [hres]
        show wpAny _ A.in1 (newExc (.type "StopIteration") [] >>= _) _ _ _
        refine wpAny_bind ?_
        simp only [newExc, newTuple]
        refine wpAny_bind (wpAny_newObj_type ?_ (by size_fits))
        refine wpAny_bind (m := firstArgMember _ _) (wpAny_of_eq (a := Value.none) (by first | rfl | (simp only [firstArgMember]; rfl)) ?_)
        refine wpAny_newObj_type ?_ (by size_fits)
        simp only [raiseNew]
        refine wpAny_bind (wpAny_bind (wpAny_handled ?_))
        first | rw [show A.in1.handled = none from hh] | rw [hh]
        refine wpAny_throw ?_
        refine wpAny_bind (wpAny_isInstance (T := "StopIteration") (b := true) ⟨_, Heap.get?_push_size _ rfl, rfl⟩ isSubtype_stop ?_)
        exact wpAny_pure (hP s1 hp _ fun b o hb => Heap.get?_push_of_some _ (Heap.get?_push_of_some _ hb))
      | error e =>
        obtain ⟨hg1, hns, hq⟩ := hE e s1 he
        obtain ⟨o, nm, qn, ho, hc, hd, hsl⟩ := hg1
        show wpAny _ A.in1 (Builtin.Generator.genLeft (.ref a) e) _ _ _
        unfold Builtin.Generator.genLeft Builtin.Generator.madeByALambda
        refine wpAny_bind (wpAny_bind (wpAny_load (o := o) ho (wpAny_pure ?_)))
        refine wpAny_bind (hns _ _ _ _ rfl ?_)
        rw [Bool.and_false, if_neg Bool.false_ne_true]
        unfold Builtin.Generator.genEscaped
        first
          | refine wpAny_bind (hns _ _ _ _ rfl ?_)
          | refine wpAny_bind (wpAny_pure (wpAny_bind (hns _ _ _ _ rfl ?_)))
        rw [if_pos (show (!false) = true from rfl)]
        first
          | refine wpAny_throw ?_
          | refine wpAny_bind (wpAny_throw ?_)
        refine wpAny_bind (hns _ _ _ _ rfl ?_)
        rw [if_neg Bool.false_ne_true]
        exact wpAny_throw hq
end Mir
set_option maxHeartbeats 1000000
namespace Mir
open PySem PySem.Spec L2
open PyProof.Rows (envOfC AllBare)
def cut (h : Heap) (L : Nat) : Heap := ⟨h.objs.extract 0 L, h.life⟩
theorem cut_size {h : Heap} {L : Nat} (hl : L ≤ h.objs.size) : (cut h L).objs.size = L := by
  show (h.objs.extract 0 L).size = L
  rw [Array.size_extract]
  omega
theorem cut_get {h : Heap} {L b : Nat} (hb : b < L) : (cut h L).get? b = h.get? b := by
  have e : (h.objs.extract 0 L)[b]? = h.objs[b]? := by
    rw [Array.getElem?_extract]
    by_cases z : b < h.objs.size
    · rw [if_pos (by omega), Nat.zero_add]
    · rw [if_neg (by omega), Array.getElem?_eq_none (by omega)]
  show (match (h.objs.extract 0 L)[b]? with | some ⟨_, _, .freed, _⟩ => none | o => o) = (match h.objs[b]? with | some ⟨_, _, .freed, _⟩ => none | o => o)
  rw [e]
theorem of_cut {h : Heap} {L b : Nat} {o : Obj} (e : (cut h L).get? b = some o) : b < L ∧ h.get? b = some o := by
  have hb : b < L := by
    have z : (cut h L).objs.size ≤ L := by
      show (h.objs.extract 0 L).size ≤ L
      rw [Array.size_extract]
      omega
    exact Nat.lt_of_lt_of_le (Heap.lt_size e) z
  rw [cut_get hb] at e
  exact ⟨hb, e⟩
theorem cut_funs {h base : Heap} {L : Addr} : ∀ {l : List Env}, h.FunFrames base l → (∀ b ∈ frs l, b < L) → (cut h L).FunFrames base l
  | [], _, _ => trivial
  | e :: r, hf, hl => by
    obtain ⟨h1, ⟨a, o, h2, h3, h4, h5⟩, h6⟩ := hf
    have ha : a < L := hl a (by unfold frs; rw [List.filterMap_cons, h2]; exact List.mem_cons_self)
    exact ⟨h1, ⟨a, o, h2, h3, by rw [cut_get ha]; exact h4, h5⟩, cut_funs h6 fun b hb => hl b (by unfold frs; rw [List.filterMap_cons, h2]; exact List.mem_cons_of_mem _ hb)⟩
structure GD (G : GG) where
  N : List Str
  V : List Bool
  kd : List (Str × NameKind)
  k : Nat
  qual : Str
  sc : Scope
  L : Addr
  f : Addr
  cdv : Value
  outer : List Env
  it : Addr
  g : Nat
  nd : N.Nodup
  kind : sc.kind = .function
  hkd : sc.names = kd
  hv : visL N V kd = true
  ncel : kd.all (fun p => p.2 != NameKind.cell && p.2 != NameKind.free) = true
  mod : Mod G.K G.mg G.base
  bsz : G.base.objs.size ≤ L
  fl : ∀ b ∈ frs outer, b < L
  itL : L < it
def GD.env {G : GG} (D : GD G) : Env := envOfC D.qual D.sc D.L D.f D.cdv
theorem kd_find {kd : List (Str × NameKind)} {p : NameKind → Bool} (h : kd.all (fun q => p q.2) = true) {x : Str} {k : NameKind} (e : kd.lookup x = some k) : p k = true := by
  have := PySem.mem_of_lookup e
  exact List.all_eq_true.mp h _ this
theorem GD.loc {G : GG} (D : GD G) {x : Str} {k : NameKind} (e : D.sc.names.lookup x = some k) : k ≠ .cell ∧ k ≠ .free := by
  rw [D.hkd] at e
  have := kd_find (p := fun k => k != NameKind.cell && k != NameKind.free) D.ncel e
  rw [Bool.and_eq_true] at this
  exact ⟨by simpa using this.1, by simpa using this.2⟩
theorem cells_none {n : Nat} : ∀ {names : List (Str × NameKind)}, (∀ p ∈ names, p.2 ≠ NameKind.cell) → cellsFrom n names [] = []
  | [], _ => rfl
  | (x, k) :: r, h => by
    have hk : k ≠ .cell := h (x, k) List.mem_cons_self
    have ih := cells_none (n := n) (names := r) fun p hp => h p (List.mem_cons_of_mem _ hp)
    unfold cellsFrom
    cases k <;> first | exact ih | exact absurd rfl hk
theorem GD.cells {G : GG} (D : GD G) : D.env.cells = [] := by
  show cellsFrom (D.L + 1) D.sc.names [] = []
  refine cells_none fun p hp z => ?_
  rw [D.hkd] at hp
  have := List.all_eq_true.mp D.ncel p hp
  rw [z] at this
  simp at this
structure Sgm {G : GG} (D : GD G) where
  A : Around
  s : Shared
  H : Hp
  Kp : List Addr
  S : Hp
  ds : List Mir.D
  fin : Option Exc
  hr : Room D.k (A.deeper D.env)
section
variable {G : GG} {D : GD G}
def Sgm.E (sg : Sgm D) : XK := fun cls dd H' => sg.ds = [] ∧ ∃ e S', sg.fin = some e ∧ Grow sg.S sg.H S' H' ∧ RepX G S' cls dd e
def Sgm.pn (sg : Sgm D) : List (Addr × Obj) := pinsAt (D.it :: sg.Kp) sg.s.heap
def Sgm.s0 (sg : Sgm D) : Shared := { sg.s with heap := cut sg.s.heap D.L }
def Sgm.Eo (sg : Sgm D) : XK := fun cls dd H' => sg.E cls dd H' ∧ ∀ p ∈ sg.pn, H' p.1 = none
def Sgm.out (sg : Sgm D) (u : Value) (s' : Shared) : Prop := L2N.CX G.P G.w D.outer sg.H sg.s0 sg.Eo u s' ∧ ∀ p ∈ sg.pn, s'.heap.get? p.1 = some p.2
def Sgm.X (sg : Sgm D) : Cx where
  prog := G.P
  w := G.w
  K := G.K
  mg := G.mg
  base := G.base
  A := sg.A.deeper D.env
  N := D.N
  s_0 := sg.s0
  H_0 := sg.H
  env := D.env
  outer := D.outer
  stack := D.env :: D.outer
  ex := []
  fn := fun _ => true
  calm := true
  pn := sg.pn
  xe := fun u s' => wpAny (model G.P G.w) (sg.A.deeper D.env) (leaving D.env u) (fun _ s'' => sg.out u s'') (fun _ _ => False) s'
theorem Sgm.takes (sg : Sgm D) : L2N.Takes sg.X (fun cls d _ H' => sg.E cls d H') := fun u s' ⟨a, B, sI, pins, σ, H, cls, d, e, I, nb, up, sky, na, os, ag, w⟩ =>
  L2N.leaveN (W := fun cls d _ H' => sg.Eo cls d H') (E := sg.Eo) rfl rfl rfl (fun _ _ _ _ h => h) ⟨a, B, sI, pins, σ, H, cls, d, e, I, nb, up, sky, na, os, ag, w, fun p hp => (I.pin p (List.mem_append_left _ hp)).2.1⟩
theorem Sgm.owns (sg : Sgm D) : PassesOwn (model sg.X.prog sg.X.w) sg.X.A sg.X.env sg.X.xe :=
  passes_of (X := sg.X) (K := fun u s'' => sg.out u s'') (E₁ := fun _ _ => False) rfl
def Sgm.F (sg : Sgm D) : Fm where
  G := G
  W := fun cls d _ H => sg.E cls d H
  N := D.N
  V := D.V
  L := D.V
  kd := D.kd
  Xs := fun X => X = sg.X
  k := D.k
  cm := true
  top := true
  fr := false
  ow := none
  hX := by rintro X rfl; exact ⟨rfl, rfl, rfl, rfl, rfl, rfl⟩
  nd := D.nd
  hkd := by rintro X rfl; exact D.hkd
  hki := by rintro X rfl; exact D.kind
  vis := by
    rintro X rfl i x hV hn
    have h := visL_at D.hv hV hn
    rw [← D.hkd] at h
    exact h.elim .inl fun h => .inr (.inl h)
  loc := by
    rintro X rfl i x hV hn
    have h := visL_at D.hv hV hn
    rw [← D.hkd] at h
    exact ⟨h, .inl rfl⟩
  hc := by rintro _ X rfl; rfl
  hr := by rintro _ X rfl; exact sg.hr
  hu := by rintro X rfl; exact sg.hr.units
  tk := by rintro X rfl; exact sg.takes
  po := by rintro X rfl; exact sg.owns
  ht := by rintro _ X rfl; exact ⟨rfl, rfl, rfl⟩
structure Res {G : GG} (D : GD G) (S : Hp) (fp : List Addr) (h1 : Heap) (A : Around) (s : Shared) (H : Hp) (Kp : List Addr) : Prop where
  room : Room (D.k + 1) A
  fr : A.frames = some D.outer
  bs : ∀ b o, G.base.get? b = some o → s.heap.get? b = some o ∧ H b = none
  lt : D.L ≤ s.heap.objs.size
  funs : s.heap.FunFrames G.base D.outer
  frf : ∀ b ∈ frs D.outer, H b = none
  hok : HOk G.P G.w H s.heap
  bare : AllBare s.gens
  ex : Ex S H
  keep : ∀ b ∈ fp, ∀ o, h1.get? b = some o → s.heap.get? b = some o ∧ H b = none
  kp : ∀ b ∈ Kp, (∃ o, s.heap.get? b = some o ∧ ∀ v, o.data ≠ .cell v) ∧ H b = none ∧ b ∉ fp ∧ D.L ≤ b
structure Aft (sg : Sgm D) (S' H' : Hp) (s1 : Shared) : Prop where
  os : s1.os = sg.s.os
  bare : AllBare s1.gens
  un : Un (frs D.outer) [] sg.H H' (cut sg.s.heap D.L) s1.heap
  hok : HOk G.P G.w H' s1.heap
  grow : Grow sg.S sg.H S' H'
  kp : ∀ b ∈ D.it :: sg.Kp, ∀ o, sg.s.heap.get? b = some o → s1.heap.get? b = some o ∧ H' b = none
structure FpK (sg : Sgm D) (fp : List Addr) (H' : Hp) (h1 : Heap) : Prop where
  it : D.it ∈ fp
  L : D.L ∈ fp
  ok : ∀ b ∈ fp, (∃ o, h1.get? b = some o ∧ ∀ v, o.data ≠ .cell v) ∧ H' b = none ∧ D.L ≤ b ∧ b ∉ sg.Kp
def Ph (sg : Sgm D) (Y : Value → GenState → Shared → Prop) : End → Shared → Prop :=
  PEnd (fun s1 => sg.ds = [] ∧ sg.fin = none ∧ ∃ S' H', Aft sg S' H' s1) (fun u s1 => sg.out u s1) Y
abbrev Kont := Option Exc → Hp → List Addr → GenState → Heap → Prop
def Yl (sg : Sgm D) (d : Mir.D) (kt : Kont) : Value → GenState → Shared → Prop := fun v gs s1 =>
  ∃ x S' H' fp, RelV x v ∧ Rep G S' x d ∧ Aft sg S' H' s1 ∧ FpK sg fp H' s1.heap ∧ kt sg.fin S' fp gs s1.heap
def Wk {G : GG} (D : GD G) : List Mir.D → Kont
  | [] => fun fin S fp gs h1 => ∀ A s H Kp (r : Res D S fp h1 A s H Kp), Sleeps (model G.P G.w) A (Ph (D := D) ⟨A, s, H, Kp, S, [], fin, r.room.deeper _⟩ fun _ _ _ => False) gs s
  | d :: rest => fun fin S fp gs h1 => ∀ A s H Kp (r : Res D S fp h1 A s H Kp), Sleeps (model G.P G.w) A (Ph (D := D) ⟨A, s, H, Kp, S, d :: rest, fin, r.room.deeper _⟩ (Yl ⟨A, s, H, Kp, S, d :: rest, fin, r.room.deeper _⟩ d (Wk D rest))) gs s
def Sgm.Y (sg : Sgm D) : Value → GenState → Shared → Prop := match sg.ds with
  | [] => fun _ _ _ => False
  | d :: rest => Yl sg d (Wk D rest)
theorem wk_eq {ds : List Mir.D} {fin : Option Exc} {S : Hp} {fp : List Addr} {gs : GenState} {h1 : Heap} : Wk D ds fin S fp gs h1 = ∀ A s H Kp (r : Res D S fp h1 A s H Kp), Sleeps (model G.P G.w) A (Ph (D := D) ⟨A, s, H, Kp, S, ds, fin, r.room.deeper _⟩ (Sgm.Y (D := D) ⟨A, s, H, Kp, S, ds, fin, r.room.deeper _⟩)) gs s := by
  cases ds <;> rfl
structure Frm {G : GG} (D : GD G) (pins : List (Addr × Obj)) (σ : L2.St) (h : Heap) : Prop where
  loc : ∃ m, h.Ns D.L m ∧ ∀ (i : Nat) (x : Str) (v : V), D.N[i]? = some x → σ[i]? = some (some v) → Vis D.sc x → ∃ u, RelV v u ∧ Look D.env h m x u
  pin : ∀ p ∈ pins, h.get? p.1 = some p.2 ∧ p.1 ≠ D.L ∧ p.1 ∉ frs D.outer ∧ ∀ v, p.2.data ≠ .cell v
  len : σ.length = D.N.length
theorem frm_of {sg : Sgm D} {pins : List (Addr × Obj)} {σ : L2.St} {H : Hp} {s : Shared} (I : Inv sg.X pins σ H s) : Frm D pins σ s.heap :=
  ⟨I.loc, fun p hp => let ⟨a, _, b, c, d⟩ := I.pin p (List.mem_append_right _ hp); ⟨a, b, c, d⟩, I.len⟩
theorem frm_look {pins : List (Addr × Obj)} {σ : L2.St} {h h' : Heap} (f : Frm D pins σ h) (k : ∀ b, b = D.L ∨ b ∈ pins.map (·.1) → ∀ o, h.get? b = some o → h'.get? b = some o) : Frm D pins σ h' := by
  obtain ⟨⟨m, hn, hl⟩, hp, hlen⟩ := f
  refine ⟨⟨m, ?_, fun i x v h1 h2 h3 => ?_⟩, fun p q => ?_, hlen⟩
  · obtain ⟨o, es, ep, ho, r⟩ := hn
    exact ⟨o, es, ep, k _ (.inl rfl) o ho, r⟩
  · obtain ⟨u, r, l⟩ := hl i x v h1 h2 h3
    refine ⟨u, r, ?_⟩
    rcases l with l | ⟨z, c, e, _⟩
    · exact .inl l
    · rw [D.cells] at e; cases e
  · obtain ⟨a, b, c, d⟩ := hp p q
    exact ⟨k _ (.inr (List.mem_map.mpr ⟨p, q, rfl⟩)) _ a, b, c, d⟩
theorem GD.kno {G : GG} (D : GD G) {x : Str} (h : D.env.kindOf x = some .cell ∨ D.env.kindOf x = some .free) : False := by
  rcases h with h | h
  · exact (D.loc (show D.sc.names.lookup x = some .cell from h)).1 rfl
  · exact (D.loc (show D.sc.names.lookup x = some .free from h)).2 rfl
theorem inv_again {S : Hp} {fp : List Addr} {h1 : Heap} {A : Around} {s : Shared} {H : Hp} {Kp : List Addr} {ds : List Mir.D} {fin : Option Exc} {pins : List (Addr × Obj)} {σ : L2.St} (r : Res D S fp h1 A s H Kp) (f : Frm D pins σ h1) (hit : D.it ∈ fp) (hL : D.L ∈ fp) (hp : ∀ p ∈ pins, p.1 ∈ fp)
    (hio : ∃ o, h1.get? D.it = some o ∧ ∀ v, o.data ≠ .cell v) : Inv (Sgm.X (D := D) ⟨A, s, H, Kp, S, ds, fin, r.room.deeper _⟩) pins σ H s := by
  have f2 : Frm D pins σ s.heap := frm_look f fun b hb o e => by
    rcases hb with hb | hb
    · rw [hb] at e ⊢; exact (r.keep _ hL o e).1
    · obtain ⟨p, hp1, hp2⟩ := List.mem_map.mp hb
      exact (r.keep b (by rw [← hp2]; exact hp p hp1) o e).1
  have csz := cut_size r.lt
  have nL : H D.L = none := by
    obtain ⟨m, ⟨o, _, _, ho, _⟩, _⟩ := f.loc
    exact (r.keep _ hL o ho).2
  have ncel : ∀ x c, D.env.cells.lookup x = some c → False := fun x c e => by rw [D.cells] at e; cases e
  refine ⟨⟨D.mod, D.kind, rfl, rfl, Nat.le_of_eq csz, fun x y c h => (ncel x c h).elim, fun x h => (D.kno h).elim, fun x c _ h => (ncel x c h).elim, fun _ => r.room.hd, Around.frames_deeper r.fr, .inr ⟨rfl, rfl⟩, fun b z => absurd (show b ∈ ([] : List Addr) from z) (by simp), fun b o e => ?_, ?_,
    fun b _ _ z => absurd (show b ∈ ([] : List Addr) from z) (by simp), fun b z => absurd (show b ∈ ([] : List Addr) from z) (by simp), cut_funs r.funs D.fl, r.frf⟩, rfl, r.bare, Un.kept fun b u e => (of_cut e).2, f2.loc, fun x c h => (ncel x c h).elim, nL, fun x c h => (ncel x c h).elim, fun p hp' => ?_, r.hok, f2.len⟩
  · have hb : b < D.L := Nat.lt_of_lt_of_le (Heap.lt_size e) D.bsz
    obtain ⟨e1, e2⟩ := r.bs b o e
    exact ⟨by show (cut s.heap D.L).get? b = some o; rw [cut_get hb]; exact e1, e2⟩
  · show G.base.objs.size ≤ (cut s.heap D.L).objs.size
    rw [csz]; exact D.bsz
  · rcases List.mem_append.mp hp' with z | z
    · obtain ⟨hb, e⟩ := of_pinsAt z
      rcases List.mem_cons.mp hb with q | q
      · obtain ⟨o, ho, hd⟩ := hio
        obtain ⟨e2, e3⟩ := r.keep _ hit o ho
        rw [q] at e ⊢
        rw [e2] at e
        cases e
        exact ⟨e2, e3, Nat.ne_of_gt D.itL, fun z => absurd (D.fl _ z) (Nat.not_lt.mpr (Nat.le_of_lt D.itL)), hd⟩
      · obtain ⟨⟨o, ho, hd⟩, e2, e3, e4⟩ := r.kp _ q
        rw [ho] at e
        cases e
        exact ⟨ho, e2, fun z => e3 (by rw [z]; exact hL), fun z => absurd (D.fl _ z) (Nat.not_lt.mpr e4), hd⟩
    · obtain ⟨a, b, c, d⟩ := f2.pin p z
      obtain ⟨a0, _⟩ := f.pin p z
      exact ⟨a, (r.keep _ (hp p z) _ a0).2, b, c, d⟩
end
end Mir
set_option maxHeartbeats 1000000
namespace Mir
open PySem PySem.Spec L2
open PyProof.Rows (envOfC AllBare)
inductive GR where
  | stk | don (ds : List D) (fin : Option Exc)
def GR.yld (d : D) : GR → GR
  | .stk => .stk
  | .don ds e => .don (d :: ds) e
def Ctl.gr {X S : Type} (c : Ctl X S) (k : S → GR) : GR := match c with
  | .stk => .stk
  | .exn e _ => .don [] (some e)
  | .ret _ => .stk
  | .nx s => k s
def M.gr {α : Type} (m : M α) (k : α → GR) : GR := match m with
  | .stk => .stk
  | .exn e => .don [] (some e)
  | .ok a => k a
def forGR {J : Type} (f : D → J → (J → GR) → GR) : List D → J → (J → GR) → GR
  | [], j, k => k j
  | d :: ds, j, k => f d j fun j' => forGR f ds j' k
def ValG (Γ : Gam) : Prop := ∀ (i : Nat) s, Γ[i]? = some s → s = .unk ∨ ∃ d, s = .val d
def valG : Gam → Bool
  | [] => true
  | .unk :: r => valG r
  | .val _ :: r => valG r
  | _ => false
theorem valG_of : ∀ {Γ : Gam}, valG Γ = true → ValG Γ
  | [], _, i, s, e => by simp at e
  | .unk :: r, h, 0, s, e => .inl (by simpa using e.symm)
  | .val d :: r, h, 0, s, e => .inr ⟨d, by simpa using e.symm⟩
  | .unk :: r, h, i + 1, s, e => valG_of (Γ := r) h i s (by simpa using e)
  | .val d :: r, h, i + 1, s, e => valG_of (Γ := r) h i s (by simpa using e)
theorem Holds.again {G : GG} {H0 H2 S H : Hp} {σ : L2.St} {Γ : Gam} (h : Holds G H0 σ S H Γ) (v : ValG Γ) (e : Ex S H2) : Holds G H2 σ S H2 Γ := by
  refine ⟨e, Same.refl _, h.len, h.val, fun i d q => ?_, fun i j d e p q => ?_, fun i a q => ?_⟩
  all_goals
    rcases v _ _ q with z | ⟨_, z⟩ <;> cases z
section
variable {G : GG} {D : GD G}
structure GPt (sg : Sgm D) (pins : List (Addr × Obj)) (σ : L2.St) (S H : Hp) (s : Shared) (Γ : Gam) : Prop where
  inv : Inv sg.X pins σ H s
  hol : Holds G sg.H σ S H Γ
  gro : Grow sg.S sg.H S H
  pk : ∀ p ∈ pins, p.1 ∉ sg.Kp ∧ D.L ≤ p.1 ∧ p.1 ≠ D.it
  ob : ∃ o, sg.s.heap.get? D.it = some o ∧ ∀ v, o.data ≠ .cell v
  kpo : ∀ b ∈ sg.Kp, ∃ o, sg.s.heap.get? b = some o ∧ ∀ v, o.data ≠ .cell v
  kpl : ∀ b ∈ sg.Kp, D.L ≤ b
  csz : sg.s0.heap.objs.size = D.L
theorem GPt.aft {sg : Sgm D} {pins : List (Addr × Obj)} {σ : L2.St} {S H : Hp} {s : Shared} {Γ : Gam} (p : GPt sg pins σ S H s Γ) : Aft sg S H s :=
  ⟨p.inv.os, p.inv.bare, p.inv.base, p.inv.hok, p.gro, fun b hb o e => let ⟨a, b, _⟩ := p.inv.pin (b, o) (List.mem_append_left _ (mem_pinsAt hb e)); ⟨a, b⟩⟩
theorem GPt.fpk {sg : Sgm D} {pins : List (Addr × Obj)} {σ : L2.St} {S H : Hp} {s : Shared} {Γ : Gam} (p : GPt sg pins σ S H s Γ) (hk : D.it ∉ sg.Kp ∧ D.L ∉ sg.Kp) : FpK sg (D.L :: D.it :: pins.map (·.1)) H s.heap := by
  refine ⟨List.mem_cons_of_mem _ List.mem_cons_self, List.mem_cons_self, fun b hb => ?_⟩
  rcases List.mem_cons.mp hb with z | hb
  · subst z
    obtain ⟨m, ⟨o, _, _, ho, hd, _⟩, _⟩ := p.inv.loc
    exact ⟨⟨o, ho, fun v z => by rw [hd] at z; cases z⟩, p.inv.free, Nat.le_refl _, hk.2⟩
  · rcases List.mem_cons.mp hb with z | hb
    · subst z
      obtain ⟨o, ho, hd⟩ := p.ob
      obtain ⟨a, b, _⟩ := p.inv.pin (D.it, o) (List.mem_append_left _ (mem_pinsAt List.mem_cons_self ho))
      exact ⟨⟨o, a, hd⟩, b, Nat.le_of_lt D.itL, hk.1⟩
    · obtain ⟨q, hq, e⟩ := List.mem_map.mp hb
      subst e
      obtain ⟨a, b, _, _, d⟩ := p.inv.pin q (List.mem_append_right _ hq)
      obtain ⟨k1, k2, _⟩ := p.pk q hq
      exact ⟨⟨_, a, d⟩, b, k2, k1⟩
def Sgm.ok (sg : Sgm D) : Prop := D.it ∉ sg.Kp ∧ D.L ∉ sg.Kp
structure Lv {G : GG} (D : GD G) (c : Code) (fs : List Frame) (gd : Bool → Bool) : Prop where
  over : ∀ A : Around, A.over c fs = A.deeper D.env
  split : splitAtGen fs = none
  grd : fs.any Frame.guarded = false
  gd : gd false = false
abbrev GRok (gr : GR) (sg : Sgm D) (c : Code) (t : Sem PySem.Fin) (fs : List Frame) (s : Shared) : Prop := gr = .don sg.ds sg.fin → Sg (model G.P G.w) sg.A (Ph sg sg.Y) c t fs s
variable {J J1 J2 : Type}
def GB {G : GG} (D : GD G) (sts : List Stmt) (Γ : Gam) (fj : J → Gam) (m : (J → GR) → GR) : Prop :=
  ∀ (S00 : Hp) (kk : J → GR) (pins : List (Addr × Obj)) (c : Code) (fs : List Frame) (K : Flow → Sem PySem.Fin) (Jx : Value → Sem PySem.Fin) (gd : Bool → Bool) (lv : List Value → List Value), Lv D c fs gd →
    (∀ (sg : Sgm D) u s, sg.X.xe u s → Sg (model G.P G.w) sg.A (Ph sg sg.Y) c (Jx u) fs s) →
    (∀ j (sg : Sgm D) σ S H s, sg.ok → Ex S00 S → GPt sg pins σ S H s (fj j) → GRok (kk j) sg c (K .next) fs s) →
    ∀ (sg : Sgm D) σ S H s, sg.ok → Ex S00 S → GPt sg pins σ S H s Γ → GRok (m kk) sg c ((execs sts D.env).wrap K Jx gd lv) fs s
variable {sts rest : List Stmt} {Γ : Gam} {fj : J → Gam} {pos yp : Pos}
theorem gb_nil (j : J) (w : Weak Γ (fj j)) : GB D [] Γ fj (fun kk => kk j) := fun S00 kk pins c fs K Jx gd lv hl hJ hK sg σ S H s ok e0 p hg =>
  sg_nil (hK j sg σ S H s ok e0 { p with hol := p.hol.weak w } hg)
theorem execs_app {K : Flow → Sem PySem.Fin} {Jx : Value → Sem PySem.Fin} {gd : Bool → Bool} {lv : List Value → List Value} {env : Env} {b : List Stmt} : ∀ (a : List Stmt), (execs (a ++ b) env).wrap K Jx gd lv = (execs a env).wrap (andThen b env K Jx gd lv) Jx gd lv
  | [] => rfl
  | st :: a => by
    have e : ∀ (r : List Stmt) (F : Flow → Sem PySem.Fin), (execs (st :: r) env).wrap F Jx gd lv = (exec st env).wrap (andThen r env F Jx gd lv) Jx gd lv := fun r F => by
      rw [execs_cons, Sem.bind_eq_wrap', Sem.wrap_wrap]
      exact Sem.wrap_congr _ _ _ (fun f => by cases f <;> rfl) fun _ => rfl
    rw [List.cons_append, e, e]
    refine Sem.wrap_congr _ _ _ (fun f => ?_) fun _ => rfl
    cases f with
    | next => exact execs_app a
    | _ => rfl
theorem gb_plain {X0 : Type} {pre : List Stmt} {c0 : Ctl X0 J1} {fx : X0 → Gam} {fj1 : J1 → Gam} {m : J1 → (J → GR) → GR} (h : ∀ sg : Sgm D, BM sg.F pre Γ (c0.out fx fj1)) (hr : ∀ j, GB D rest (fj1 j) fj (m j)) : GB D (pre ++ rest) Γ fj (fun kk => c0.gr fun j => m j kk) := by
  intro S00 kk pins c fs K Jx gd lv hl hJ hK sg σ S H s ok e00 p hg
  rw [execs_app]
  refine sg_wrap ?_
  rw [hl.over]
  obtain ⟨t, ht, d⟩ := h sg
  have run := (ht sg.X rfl).run pins s σ H { nx := fun σ' H' => ∃ j S', c0 = .nx j ∧ Ex S00 S' ∧ Grow sg.S sg.H S' H' ∧ Holds G sg.H σ' S' H' (fj1 j), rt := fun _ _ => False } p.inv (d S sg.H _ σ S H p.gro.base p.hol ?_)
  · refine wpAny_mono run (fun f s' hf => ?_) fun u s' hx => hJ sg u s' hx
    cases f with
    | next =>
      obtain ⟨σ', H', I', j, S', e, e2, g', hh'⟩ := hf
      subst e
      exact hr j S00 kk pins c fs K Jx gd lv hl hJ hK sg σ' S' H' s' ok e2 ⟨I', hh', g', p.pk, p.ob, p.kpo, p.kpl, p.csz⟩ hg
    | brk => obtain ⟨_, _, _, z⟩ := hf; exact z.elim
    | cont => obtain ⟨_, _, _, z⟩ := hf; exact z.elim
    | ret u => obtain ⟨_, _, _, _, _, z⟩ := hf; exact z.elim
  · cases c0 with
    | stk => cases hg
    | ret d => cases hg
    | nx j => exact fun σ' S' H' g' hh' => ⟨j, S', rfl, e00.trans g'.s, p.gro.rebase g', hh'⟩
    | exn e x =>
      have hg : GR.don [] (some e) = GR.don sg.ds sg.fin := hg
      cases hg' : sg.ds with
      | cons _ _ => rw [hg'] at hg; cases hg
      | nil =>
        rw [hg'] at hg
        have hf : sg.fin = some e := by injection hg with a b; exact b.symm
        exact fun cls dd σ' S' H' g' _ r => ⟨hg', e, S', hf, p.gro.rebase g', r⟩
theorem gb_yield {e : Expr} {me : M Mir.D} {m : Mir.D → (J → GR) → GR} (he : ∀ sg : Sgm D, EM sg.F e Γ me) (hv : ValG Γ) (hr : ∀ d, GB D rest Γ fj (m d)) (hco : D.sc.isCoroutine = false) (hi : interactive D.env = false) :
    GB D (.Expr (.Yield (some e) yp) pos :: rest) Γ fj (fun kk => me.gr fun d => (m d kk).yld d) := by
  intro S00 kk pins c fs K Jx gd lv hl hJ hK sg σ S H s ok e00 p hg
  refine sg_cons (sg_yieldS hl.split hco hi ?_)
  rw [hl.over]
  obtain ⟨t, ht, d⟩ := he sg
  have run := (ht sg.X rfl).run pins s σ H (fun x H' => ∃ d S', me = .ok d ∧ Grow S H S' H' ∧ Rep G S' x d) p.inv (d sg.H σ S H _ p.hol ?_)
  · refine wpAny_mono run (fun v s1 hf => ?_) fun u s' hx => hJ sg u s' hx
    obtain ⟨x, H1, I1, rv, d0, S1, e0, g1, r1⟩ := hf
    subst e0
    have hg : ((m d0 kk).yld d0) = .don sg.ds sg.fin := hg
    obtain ⟨ds, fin, hm⟩ : ∃ ds fin, m d0 kk = .don ds fin := by
      cases q : m d0 kk with
      | stk => rw [q] at hg; cases hg
      | don ds fin => exact ⟨ds, fin, rfl⟩
    rw [hm] at hg
    have hg : GR.don (d0 :: ds) fin = .don sg.ds sg.fin := hg
    have e1 : sg.ds = d0 :: ds := by injection hg with a b; exact a.symm
    have e2 : sg.fin = fin := by injection hg with a b; exact b.symm
    have p1 : GPt sg pins σ S1 H1 s1 Γ := ⟨I1, p.hol.grow g1, p.gro.trans g1, p.pk, p.ob, p.kpo, p.kpl, p.csz⟩
    intro l k pp hk
    refine ⟨hl.gd, hl.grd, ?_⟩
    have eY : sg.Y = Yl sg d0 (Wk D ds) := by unfold Sgm.Y; rw [e1]
    show sg.Y v _ s1
    rw [eY]
    have fpk := p1.fpk ok
    refine ⟨x, S1, H1, _, rv, r1, p1.aft, fpk, ?_⟩
    rw [e2, wk_eq]
    intro A2 s2 H2 Kp2 r
    show Sg _ A2 _ c (k (.send .none)) fs s2
    refine hk A2 _ s2 ?_
    have I2 := inv_again (S := S1) (ds := ds) (fin := fin) r (frm_of I1) fpk.it fpk.L (fun q hq => List.mem_cons_of_mem _ (List.mem_cons_of_mem _ (List.mem_map.mpr ⟨q, hq, rfl⟩))) (fpk.ok _ fpk.it).1
    have ok2 : (⟨A2, s2, H2, Kp2, S1, ds, fin, r.room.deeper _⟩ : Sgm D).ok := ⟨fun z => (r.kp _ z).2.2.1 fpk.it, fun z => (r.kp _ z).2.2.1 fpk.L⟩
    refine hr d0 S00 kk pins c fs K Jx gd lv hl hJ hK ⟨A2, s2, H2, Kp2, S1, ds, fin, r.room.deeper _⟩ σ S1 H2 s2 ok2 (e00.trans g1.s) ⟨I2, p1.hol.again hv r.ex, Grow.refl r.ex, fun q hq => ?_, ?_, fun b hb => (r.kp b hb).1, fun b hb => (r.kp b hb).2.2.2, cut_size r.lt⟩ hm
    · have hm : q.1 ∈ D.L :: D.it :: pins.map (·.1) := List.mem_cons_of_mem _ (List.mem_cons_of_mem _ (List.mem_map.mpr ⟨q, hq, rfl⟩))
      exact ⟨fun z => (r.kp _ z).2.2.1 hm, (p.pk q hq).2⟩
    · obtain ⟨o, ho, hd⟩ := (fpk.ok _ fpk.it).1
      exact ⟨o, (r.keep _ fpk.it o ho).1, hd⟩
  · cases hme : me with
    | stk => rw [hme] at hg; cases hg
    | ok d => exact fun S' H' g' v r => ⟨d, S', rfl, g', r⟩
    | exn e =>
      rw [hme] at hg
      have hg : GR.don [] (some e) = GR.don sg.ds sg.fin := hg
      have e1 : sg.ds = [] := by injection hg with a b; exact a.symm
      have e2 : sg.fin = some e := by injection hg with a b; exact b.symm
      exact fun cls dd S' H' g' r => ⟨e1, e, S', e2, p.gro.trans g', r⟩
end
end Mir
set_option maxHeartbeats 1000000
namespace Mir
open PySem PySem.Spec L2
open PyProof.Rows (envOfC AllBare)
section
variable {G : GG} {D : GD G} {J J1 : Type} {rest body : List Stmt} {Γ : Gam} {fj : J → Gam} {pos : Pos}
theorem sg_leave {sg : Sgm D} {c cl : Code} {fs : List Frame} {K : Flow → Sem PySem.Fin} {Jx : Value → Sem PySem.Fin} {gd : Bool → Bool} {lv : List Value → List Value} {l : List Value} {b : Bool} {p : Pos} (hl : Lv D c fs gd) (hcl : ∀ (k : Result → Sem PySem.Fin) (A : Around), A.over cl (.ret k none b l c p [] :: fs) = A.deeper D.env)
    (hJ : ∀ (sg : Sgm D) u s, sg.X.xe u s → Sg (model G.P G.w) sg.A (Ph sg sg.Y) c (Jx u) fs s) {u : Value} {s : Shared} (h : sg.X.xe u s) :
    Sg (model G.P G.w) sg.A (Ph sg sg.Y) cl (loopExc D.env u) (.ret (loopEnd D.env K Jx gd lv) none b l c p [] :: fs) s := by
  have back : ∀ x s', cameBackBy (model G.P G.w) (sg.A.deeper D.env) D.env sg.X.xe x s' → Sg (model G.P G.w) sg.A (Ph sg sg.Y) cl (.raise x) (.ret (loopEnd D.env K Jx gd lv) none b l c p [] :: fs) s' := fun x s' q => by
    refine sg_leaf (.error x) ?_
    show Sg _ _ _ _ (((L2.cameBack D.env x).bind fun _ => (Sem.raise x : Sem Flow)).wrap K Jx gd lv) _ _
    rw [Sem.bind_eq_wrap, Sem.wrap_wrap]
    refine sg_wrap ?_
    rw [hl.over]
    exact wpAny_mono (show wpAny _ _ (L2.cameBack D.env x) (fun _ s'' => sg.X.xe x s'') sg.X.xe s' from q) (fun _ s'' hx => hJ sg x s'' hx) fun y s'' hx => hJ sg y s'' hx
  unfold loopExc
  refine sg_wrap ?_
  rw [hcl]
  refine wpAny_bind (wpAny_mono (sg.owns u s h) (fun _ s' q => wpAny_theTreesLotGoes (back u s' q)) fun y s' q => back y s' q)
theorem lv_loop {c cl : Code} {fs : List Frame} {gd : Bool → Bool} {k : Result → Sem PySem.Fin} {l : List Value} {p : Pos} (hl : Lv D c fs gd) (hw : cl.weight = 0) (hu : cl.cUnits = 0) : Lv D cl (.ret k none (gd false) l c p [] :: fs) id where
  over := fun A => (GenW.over_loop hw hu).trans (hl.over A)
  split := by
    show (splitAtGen fs).map _ = none
    rw [hl.split]; rfl
  grd := by
    show (gd false || fs.any Frame.guarded) = false
    rw [hl.gd, hl.grd]; rfl
  gd := rfl
theorem gb_for {mi : M (List Mir.D)} {f : Mir.D → J1 → (J1 → GR) → GR} {fj1 : J1 → Gam} {j0 : J1} {tf : Mir.D → Gam → Option Gam} {tg iter : Expr} {m : J1 → (J → GR) → GR} (hi : ∀ sg : Sgm D, IM sg.F tg iter Γ mi) (ht : ∀ sg : Sgm D, TgM sg.F tg tf) (w : Weak Γ (fj1 j0)) (hv : ∀ j, ValG (fj1 j))
    (hb : ∀ d j, (∃ Γ', tf d (fj1 j) = some Γ' ∧ GB D body Γ' fj1 (f d j)) ∨ f d j = fun _ => .stk) (hr : ∀ j, GB D rest (fj1 j) fj (m j))
    (hs : ∀ x, foldedSetIterable iter D.env x = pure x) : GB D (.For tg iter body [] pos :: rest) Γ fj (fun kk => mi.gr fun ds => forGR f ds j0 fun j => m j kk) := by
  intro S00 kk pins c fs K Jx gd lv hl hJ hK sg σ S H s ok e00 p hg
  refine sg_cons (sg_for hs ?_)
  rw [hl.over]
  have run := ((cI_ok (F := sg.F) (tg := tg) (iter := iter) sg.X rfl).run pins s σ H (fun J' H' => ∃ ds S', mi = .ok ds ∧ Grow S H S' H' ∧ ItSem G J' S' ds) p.inv ((hi sg).c sg.H σ S H _ p.hol ?_))
  · refine wpAny_mono run (fun v s1 h1 => wpAny_mono h1 (fun itv s2 h2 pp => ?_) fun u s' hx => hJ sg u s' hx) fun u s' hx => hJ sg u s' hx
    obtain ⟨itl, fp, tn, Jt, H2, e, I2, T, st2, f2, ds, S2, hds, g2, its⟩ := h2
    subst e
    rw [hds] at hg
    have hg : (forGR f ds j0 fun j => m j kk) = .don sg.ds sg.fin := hg
    have stat : ∀ b ∈ fp, D.L ≤ b ∧ b ≠ D.L ∧ b ∉ frs D.outer ∧ b ≠ D.it ∧ (∀ q ∈ pins, q.1 ≠ b) ∧ b ∉ sg.Kp ∧ H2 b = none := fun b hb => by
      obtain ⟨a1, a2, a3, a4, a5, a6⟩ := f2 b hb
      refine ⟨?_, a2, a3, fun z => ?_, fun q hq => a6 q (List.mem_append_right _ hq), fun z => ?_, a1⟩
      · rcases a4 with z | z
        · exact absurd (show b ∈ ([] : List Addr) from z) (by simp)
        · rw [p.csz.symm]; exact z
      · obtain ⟨o, ho, _⟩ := p.ob
        exact a6 (D.it, o) (List.mem_append_left _ (mem_pinsAt List.mem_cons_self ho)) z.symm
      · obtain ⟨o, ho, _⟩ := p.kpo b z
        exact a6 (b, o) (List.mem_append_left _ (mem_pinsAt (List.mem_cons_of_mem _ z) ho)) rfl
    have lvl := fun (kc : Result → Sem PySem.Fin) => lv_loop (k := kc) (cl := .forLoop tg (.ref itl) body [] D.env) (l := lv []) (p := pp) hl rfl rfl
    have main : ∀ (n i : Nat), i + n = ds.length → ∀ j (sg' : Sgm D) σ' S' H' s', sg'.ok → GPt sg' pins σ' S' H' s' (fj1 j) → Ex S2 S' → tn i s'.heap → (∀ b ∈ fp, H' b = none ∧ b ∉ sg'.Kp) → (forGR f (ds.drop i) j fun j => m j kk) = .don sg'.ds sg'.fin →
        Sg (model G.P G.w) sg'.A (Ph sg' sg'.Y) (.forLoop tg (.ref itl) body [] D.env) ((model G.P G.w).den (.forLoop tg (.ref itl) body [] D.env)) (.ret (loopEnd D.env (andThen rest D.env K Jx gd lv) Jx gd lv) none (gd false) (lv []) c pp [] :: fs) s' := by
      intro n
      induction n with
      | zero =>
        intro i hin j sg' σ' S' H' s' ok' p' e' st' hf' hg'
        have fo : ∀ b ∈ fp, FpOk sg'.X pins H' b := fun b hb => by
          obtain ⟨a1, a2, a3, a4, a5, _, _⟩ := stat b hb
          refine ⟨(hf' b hb).1, a2, a3, .inr (by show sg'.s0.heap.objs.size ≤ b; rw [p'.csz]; exact a1), fun x cc q => ?_, fun q hq => ?_⟩
          · have q : D.env.cells.lookup x = some cc := q
            rw [D.cells] at q; cases q
          · rcases List.mem_append.mp hq with z | z
            · rcases List.mem_cons.mp (of_pinsAt z).1 with z | z
              · rw [z]; exact Ne.symm a4
              · exact fun y => (hf' b hb).2 (y ▸ z)
            · exact a5 q z
        refine sg_turn ?_
        rw [(lvl _).over]
        have hi' : i = ds.length := by omega
        subst hi'
        obtain ⟨stop, _⟩ := its S' H' e' p'.gro.sub
        refine wpAny_mono (T.done sg'.X rfl rfl rfl rfl _ pins s' σ' H' sg'.X.xe p'.inv fo st' stop) (fun r s3 hr3 => ?_) fun u s3 hx => sg_leave hl (fun kc => (lvl kc).over) hJ hx
        obtain ⟨e3, I3⟩ := hr3
        subst e3
        rw [List.drop_length] at hg'
        have hg' : m j kk = .don sg'.ds sg'.fin := hg'
        refine sg_again rfl ?_
        refine sg_leaf (.ok .next) ?_
        exact hr j S00 kk pins c fs K Jx gd lv hl hJ hK sg' σ' S' H' s3 ok' ((e00.trans g2.s).trans e') { p' with inv := I3 } hg'
      | succ n ih =>
        intro i hin j sg' σ' S' H' s' ok' p' e' st' hf' hg'
        have fo : ∀ b ∈ fp, FpOk sg'.X pins H' b := fun b hb => by
          obtain ⟨a1, a2, a3, a4, a5, _, _⟩ := stat b hb
          refine ⟨(hf' b hb).1, a2, a3, .inr (by show sg'.s0.heap.objs.size ≤ b; rw [p'.csz]; exact a1), fun x cc q => ?_, fun q hq => ?_⟩
          · have q : D.env.cells.lookup x = some cc := q
            rw [D.cells] at q; cases q
          · rcases List.mem_append.mp hq with z | z
            · rcases List.mem_cons.mp (of_pinsAt z).1 with z | z
              · rw [z]; exact Ne.symm a4
              · exact fun y => (hf' b hb).2 (y ▸ z)
            · exact a5 q z
        refine sg_turn ?_
        rw [(lvl _).over]
        have hlt : i < ds.length := by omega
        obtain ⟨_, go⟩ := its S' H' e' p'.gro.sub
        obtain ⟨hgo, hy⟩ := go i ds[i] (List.getElem?_eq_getElem hlt)
        rw [List.drop_eq_getElem_cons hlt] at hg'
        have hg' : f ds[i] j (fun j' => forGR f (ds.drop (i + 1)) j' fun j => m j kk) = .don sg'.ds sg'.fin := hg'
        have lea : ∀ u s3, sg'.X.xe u s3 → _ := fun u s3 hx => sg_leave (K := andThen rest D.env K Jx gd lv) (lv := lv) hl (fun kc => (lvl kc).over) hJ hx
        refine wpAny_mono (T.item sg'.X rfl rfl rfl rfl i pins s' σ' H' sg'.X.xe p'.inv fo st' hgo) (fun r s3 hr3 => ?_) lea
        obtain ⟨u, e3, h3⟩ := hr3
        subst e3
        refine wpAny_mono h3 (fun _ s4 h4 => ?_) lea
        obtain ⟨x, H4, I4, r4, y4, st4, fr4⟩ := h4
        obtain ⟨S4, g4, rep4⟩ := hy x H4 y4
        rcases hb ds[i] j with ⟨Γ', eΓ, hbd⟩ | hstk
        · have I4' := I4.pinned (fun b hb => let ⟨_, z⟩ := fo b hb; ⟨fr4 b hb, z⟩) (T.obj _ _ st4)
          obtain ⟨gg, pg, eg⟩ := ht sg'
          have run2 := (pg sg'.X rfl).run (pins ++ pinsAt fp s4.heap) s4 σ' H4 x u (fun σ5 H5 => H5 = H4 ∧ Holds G sg'.H σ5 S4 H4 Γ') I4' r4 (eg sg'.H σ' S4 H4 x ds[i] (fj1 j) Γ' _ (p'.hol.grow g4) rep4 eΓ fun σ5 h5 _ _ => ⟨rfl, h5⟩)
          refine wpAny_mono run2 (fun _ s5 h5 => ?_) lea
          obtain ⟨σ5, H5, I5, eH, hh5⟩ := h5
          subst eH
          have pk5 : ∀ q ∈ pins ++ pinsAt fp s4.heap, q.1 ∉ sg'.Kp ∧ D.L ≤ q.1 ∧ q.1 ≠ D.it := fun q hq => by
            rcases List.mem_append.mp hq with z | z
            · exact p'.pk q z
            · have hb := (of_pinsAt z).1
              obtain ⟨a1, _, _, a4, _⟩ := stat q.1 hb
              exact ⟨(hf' q.1 hb).2, a1, a4⟩
          refine hbd S2 (fun j' => forGR f (ds.drop (i + 1)) j' fun j => m j kk) (pins ++ pinsAt fp s4.heap) _ _ (loopK tg (.ref itl) body D.env) (loopExc D.env) id id (lvl _) (fun sg2 u2 s6 hx => sg_leave hl (fun kc => (lvl kc).over) hJ hx) (fun j' sg2 σ6 S6 H6 s6 ok6 e6 p6 hg6 => ?_) sg' σ5 S4 H5 s5 ok' (e'.trans g4.s) ⟨I5, hh5, p'.gro.trans g4, pk5, p'.ob, p'.kpo, p'.kpl, p'.csz⟩ hg'
          refine sg_again rfl ?_
          have pin6 : ∀ b ∈ fp, ∀ o, s4.heap.get? b = some o → s6.heap.get? b = some o ∧ H6 b = none := fun b hb o eo =>
            let ⟨z1, z2, _⟩ := p6.inv.pin (b, o) (List.mem_append_right _ (List.mem_append_right _ (mem_pinsAt hb eo)))
            ⟨z1, z2⟩
          refine ih (i + 1) (by omega) j' sg2 σ6 S6 H6 s6 ok6 ⟨p6.inv.unpinned, p6.hol, p6.gro, fun q hq => p6.pk q (List.mem_append_left _ hq), p6.ob, p6.kpo, p6.kpl, p6.csz⟩ e6 (T.keep _ _ _ st4 fun b hb o eo => (pin6 b hb o eo).1) (fun b hb => ?_) hg6
          obtain ⟨o, eo, _⟩ := T.obj _ _ st4 b hb
          exact ⟨(pin6 b hb o eo).2, (p6.pk (b, o) (List.mem_append_right _ (mem_pinsAt hb eo))).1⟩
        · rw [hstk] at hg'
          cases hg'
    refine main ds.length 0 (Nat.zero_add _) j0 sg σ S2 H2 s2 ok ⟨I2, (p.hol.grow g2).weak w, p.gro.trans g2, p.pk, p.ob, p.kpo, p.kpl, p.csz⟩ (Same.refl _) st2 (fun b hb => ?_) hg
    obtain ⟨_, _, _, _, _, a6, a7⟩ := stat b hb
    exact ⟨a7, a6⟩
  · cases hm : mi with
    | stk => rw [hm] at hg; cases hg
    | ok ds => exact fun S' H' g' J' hJ' => ⟨ds, S', rfl, g', hJ'⟩
    | exn e =>
      rw [hm] at hg
      have hg : GR.don [] (some e) = GR.don sg.ds sg.fin := hg
      have e1 : sg.ds = [] := by injection hg with a b; exact a.symm
      have e2 : sg.fin = some e := by injection hg with a b; exact b.symm
      exact fun cls dd S' H' g' r => ⟨e1, e, S', e2, p.gro.trans g', r⟩
end
end Mir
set_option maxHeartbeats 1000000
namespace Mir
open PySem PySem.Spec L2
open PyProof.Rows (envOfC AllBare)
section
variable {G : GG} {D : GD G}
theorem wk_start {sts : List Stmt} {Γ : Gam} {mm : (Unit → GR) → GR} {σ : L2.St} {S : Hp} {h1 : Heap} {ds : List Mir.D} {fin : Option Exc} (hb : GB D sts Γ (fun _ : Unit => []) mm) (hm : mm (fun _ => .don [] none) = .don ds fin) (f : Frm D [] σ h1) (hv : ValG Γ)
    (hΓ : ∀ H, Ex S H → Holds G H σ S H Γ) (hio : ∃ o, h1.get? D.it = some o ∧ ∀ v, o.data ≠ .cell v) : Wk D ds fin S [D.L, D.it] (.fresh (.func sts D.env)) h1 := by
  rw [wk_eq]
  intro A s H Kp r
  show Sg _ A _ _ _ [] s
  refine sg_func ?_
  have hit : D.it ∈ [D.L, D.it] := by simp
  have hL : D.L ∈ [D.L, D.it] := by simp
  have I := inv_again (S := S) (ds := ds) (fin := fin) r f hit hL (fun p hp => by simp at hp) hio
  refine hb S (fun _ => .don [] none) [] _ [] _ _ id id ⟨fun A => GenW.over_func, rfl, rfl, rfl⟩ (fun sg u s hx => ?_) (fun _ sg σ S H s ok e0 p hg => ?_) ⟨A, s, H, Kp, S, ds, fin, r.room.deeper _⟩ σ S H s ⟨fun z => (r.kp _ z).2.2.1 hit, fun z => (r.kp _ z).2.2.1 hL⟩ (Same.refl _) ⟨I, hΓ H r.ex, Grow.refl r.ex, fun q hq => by simp at hq, ?_, fun b hb => (r.kp b hb).1, fun b hb => (r.kp b hb).2.2.2, cut_size r.lt⟩ hm
  · refine sg_wrap ?_
    rw [GenW.over_func]
    refine wpAny_mono (show wpAny (model G.P G.w) (sg.A.deeper D.env) (leaving D.env u) (fun _ s'' => sg.out u s'') (fun _ _ => False) s from hx) (fun _ s'' q => ?_) fun _ s'' q => q.elim
    exact sg_end (.error u) q
  · have e1 : sg.ds = [] := by injection hg with a b; exact a.symm
    have e2 : sg.fin = none := by injection hg with a b; exact b.symm
    exact sg_end (.ok (.ret .none)) ⟨.inl rfl, e1, e2, S, H, p.aft⟩
  · obtain ⟨o, ho, hd⟩ := hio
    exact ⟨o, (r.keep _ hit o ho).1, hd⟩
end
def mkD (G : GG) {st : Stmt} {N ps : List Str} (Sc : GScope N ps (defScope st)) (V : List Bool) (kd : List (Str × NameKind)) (hv : visL N V kd = true) (hkd : (defScope st).names = kd) (ncel : kd.all (fun p => p.2 != NameKind.cell && p.2 != NameKind.free) = true) (k : Nat) (qual : Str) (f : Addr) (cdv : Value)
    (L : Addr) (outer : List Env) (it : Addr) (g : Nat) (mod : Mod G.K G.mg G.base) (bsz : G.base.objs.size ≤ L) (fl : ∀ b ∈ frs outer, b < L) (itL : L < it) : GD G where
  N := N
  V := V
  kd := kd
  k := k
  qual := qual
  sc := defScope st
  L := L
  f := f
  cdv := cdv
  outer := outer
  it := it
  g := g
  nd := Sc.nd
  kind := Sc.kind
  hkd := hkd
  hv := hv
  ncel := ncel
  mod := mod
  bsz := bsz
  fl := fl
  itL := itL
def GMd (G : GG) (k : Nat) (outer : List Env) (s : Shared) (S : Hp) (ds : List D) (fin : Option Exc) (u : Value) (s' : Shared) : Prop :=
  ∃ (D : GD G) (c : Code), D.k + 1 = k ∧ D.outer = outer ∧ D.L = s.heap.objs.size ∧ u = .ref D.it ∧ s'.os = s.os ∧ AllBare s'.gens ∧ (∀ b o, s.heap.get? b = some o → s'.heap.get? b = some o) ∧ s'.heap.IsGen D.it D.g ∧ s'.gens[D.g]? = some (.fresh c) ∧ D.it < s'.heap.objs.size ∧
    (∀ b ∈ [D.L, D.it], ∃ o, s'.heap.get? b = some o ∧ ∀ v, o.data ≠ .cell v) ∧ Wk D ds fin S [D.L, D.it] (.fresh c) s'.heap
structure GFnOk (G : GG) (k : Nat) (f : Addr) (fd : FuncData) (ps : List Str) (m : List D → GR) : Prop where
  len : ∀ ds, m ds ≠ .stk → ds.length = ps.length
  run : ∀ (A : Around) (outer : List Env) (s : Shared) (H S : Hp) (args : Args) (us : List Value) (vs : List V) (das ds : List D) (fin : Option Exc), Room k A → Env0 G.P G.w G.K G.mg G.base A outer s H → BindsTo s fd args (ps.zip us) → Vals vs us → Ex S H → Reps G S vs das → m das = .don ds fin →
    codeAny (model G.P G.w) A (.call (.ref f) args) (fun r s' => match r with | .ok (.ret u) => GMd G k outer s S ds fin u s' | _ => False) s
theorem gfn_ok {G : GG} {name qual : Str} {st : Stmt} {f : Addr} {fd : FuncData} {N ps : List Str} {k : Nat} {m : List D → GR} (V : List Bool) (kd : List (Str × NameKind)) (Fn : Fun G.K name qual st f fd) (Sc : GScope N ps (defScope st)) (hv : visL N V kd = true) (hkd : (defScope st).names = kd)
    (ncel : kd.all (fun p => p.2 != NameKind.cell && p.2 != NameKind.free) = true) (har : ∀ ds, m ds ≠ .stk → ds.length = ps.length)
    (hB : ∀ cdv L outer it g mod bsz fl itL ds, ds.length = ps.length → ∃ mm : (Unit → GR) → GR, m ds = mm (fun _ => .don [] none) ∧ GB (mkD G Sc V kd hv hkd ncel k qual f cdv L outer it g mod bsz fl itL) (defBody st) (ds.map Sl.val ++ List.replicate (N.length - ds.length) Sl.unk) (fun _ => []) mm) :
    GFnOk G (k + 1) f fd ps m := by
  have hpl : ps.length ≤ N.length := by have := congrArg List.length Sc.pre; rw [List.length_take] at this; omega
  obtain ⟨oc, od, kV, doc, pm, an, cdv, ct, osl, hfd, lk, hcd⟩ := Fn.ex
  subst hfd
  refine ⟨har, fun A outer s H S args us vs das ds fin hr e0 hb r eS rS hm => ?_⟩
  have hl : das.length = ps.length := har das fun z => by rw [z] at hm; cases hm
  have hlv : vs.length = ps.length := rS.length.trans hl
  have KX : G.K.In s.heap := e0.mod.kin.keeps fun b o e => (e0.bs b o e).1
  have lim : s.heap.NoLimit := e0.mod.nolimit.keeps fun b o e => (e0.bs b o e).1
  have hkind : ∀ y ∈ ps.zip us, (defScope st).names.lookup y.1 = some .local ∨ ((defScope st).names.lookup y.1 = some .cell ∧ ((cellsFrom (s.heap.objs.size + 1) (defScope st).names []).lookup y.1).isSome = true) := fun ⟨n, v⟩ hy => by
    rcases Sc.par n (List.of_mem_zip hy).1 with q | q
    · exact .inl q
    · exact .inr ⟨q, PySem.W.cellsFrom_some _ _ _ (.inl q)⟩
  refine codeAny_call_generator hr.depth (KX _ _ lk) rfl Sc.co Sc.gen rfl (PySem.W.codeRec_of KX hcd) (hb _ _ _ _ ?_)
  refine wpAny_newFunctionEnv_cells Sc.kind hkind fun env he s1 x => ?_
  subst he
  refine ⟨lim.keeps x.toInCall.keep, ?_⟩
  obtain ⟨h1, tk, es1, hk1⟩ := x.done
  have lt1 : s.heap.objs.size < s1.heap.objs.size := x.toInCall.ns.lt
  have kp1 : ∀ b o, s.heap.get? b = some o → s1.heap.get? b = some o := x.toInCall.keep
  have I1 : Inv (gcxOf G.P G.w G.K G.mg G.base N qual (defScope st) f cdv A outer s H (fun _ _ _ => True) []) [] (L2.start N vs) H s1 := inv_startG Sc hr.hd e0 hlv r x
  have main : ∀ (go : Obj) (nm qn : Value) (tk2 : Nat), go.cls = .type "generator" → go.data = .fields #[.int s1.gens.size 0, nm, qn] → go.slots = #[] → (∀ h : Heap, (h.push go).get? h.objs.size = some go) →
      GMd G (k + 1) outer s S ds fin (.ref s1.heap.objs.size) { s1 with gens := s1.gens.push (.fresh (.func (defBody st) (envOfC qual (defScope st) s.heap.objs.size f cdv))), toks := tk2, heap := s1.heap.push go } := by
    intro go nm qn tk2 hgc hgd0 hgs hgp
    have fl : ∀ b ∈ frs outer, b < s.heap.objs.size := fun b hb => let ⟨_, o, ho, _⟩ := e0.funs.mem hb; Heap.lt_size ho
    have hpush : (s1.heap.push go).get? s1.heap.objs.size = some go := hgp _
    have nogc : ∀ v, go.data ≠ .cell v := fun v q => by rw [hgd0] at q; cases q
    have gen1 : s1.gens = s.gens := by rw [es1]
    obtain ⟨mm, e1, hgb⟩ := hB cdv s.heap.objs.size outer s1.heap.objs.size s1.gens.size e0.mod e0.bsz fl lt1 das hl
    refine ⟨mkD G Sc V kd hv hkd ncel k qual f cdv s.heap.objs.size outer s1.heap.objs.size s1.gens.size e0.mod e0.bsz fl lt1, _, rfl, rfl, rfl, rfl, by rw [es1], AllBare.push (by rw [gen1]; exact e0.bare) rfl, fun b o e => Heap.get?_push_of_some _ (kp1 b o e), ⟨go, nm, qn, hpush, hgc, hgd0, hgs⟩, Array.getElem?_push_size .., ?_, fun b hb => ?_, ?_⟩
    · show _ < (s1.heap.push _).objs.size
      rw [Heap.size_push]; exact Nat.lt_succ_self _
    · rcases List.mem_cons.mp hb with z | z
      · obtain ⟨m', ⟨o, _, _, ho, hd, _⟩, _⟩ := I1.loc
        refine ⟨o, ?_, fun v z => by rw [hd] at z; cases z⟩
        rw [z]
        exact Heap.get?_push_of_some _ ho
      · rw [List.mem_singleton.mp z]
        exact ⟨go, hpush, nogc⟩
    · refine wk_start hgb (e1.symm.trans hm) (frm_look (h := s1.heap) ⟨I1.loc, fun p hp => by simp at hp, I1.len⟩ fun b _ o e => Heap.get?_push_of_some _ e) ?_ (fun H' eH => starts eH rS (by rw [hlv]; exact hpl)) ⟨go, hpush, nogc⟩
      intro i q e
      by_cases hi : i < (das.map Sl.val).length
      · rw [List.getElem?_append_left hi, List.getElem?_map] at e
        cases z : das[i]? with
        | none => rw [z] at e; cases e
        | some d => rw [z] at e; cases e; exact .inr ⟨d, rfl⟩
      · rw [List.getElem?_append_right (by omega), List.getElem?_replicate] at e
        split at e
        · cases e; exact .inl rfl
        · cases e
  exact main _ _ _ _ rfl rfl rfl fun h => Heap.get?_push_size _ rfl
end Mir
set_option maxHeartbeats 1000000
namespace Mir
open PySem PySem.Spec L2
open PyProof.Rows (envOfC AllBare)
theorem objok_there {P : Program} {w : World} {H : Hp} {h : Heap} {a : Addr} : ∀ {o : HO}, ObjOk P w H h a o → ∃ u, h.get? a = some u
  | .lst xs, x => by obtain ⟨_, _, _, _, e⟩ := x; exact ⟨_, e⟩
  | .tup xs, x => by obtain ⟨_, _, _, o, e, _⟩ := x; exact ⟨_, e⟩
  | .dK kvs, x => by obtain ⟨_, _, _, _, o, _, _, e, _⟩ := x; exact ⟨_, e⟩
  | .dT kvs, x => by obtain ⟨_, _, _, _, o, _, _, e, _⟩ := x; exact ⟨_, e⟩
  | .set S n, x => by obtain ⟨o, _, _, _, e, _⟩ := x; exact ⟨_, e⟩
  | .ins C dx fs, x => by obtain ⟨_, _, _, e, _⟩ := x; exact ⟨_, e⟩
  | .own y, x => x
  | .xd fs, x => by obtain ⟨_, ⟨o, _, _, e, _⟩, _⟩ := x; exact ⟨_, e⟩
  | .rng lo hi, x => by obtain ⟨_, _, _, e⟩ := x; exact ⟨_, e⟩
  | .frz ob u, x => ⟨_, x.1⟩
  | .tbl ps, x => ⟨_, (show h.get? a = some _ from x)⟩
  | .met f y, x => ⟨_, (show h.get? a = some _ from x)⟩
  | .ext φ, x => x.2.1
section
variable {X : Cx} {pins : List (Addr × Obj)} {σ : L2.St} {H H' : Hp} {s : Shared} {h' : Heap} {L : Nat} {Kp : List Addr}
def Free (X : Cx) (pins : List (Addr × Obj)) (b : Addr) : Prop := (b ∈ X.ex ∨ X.s_0.heap.objs.size ≤ b) ∧ b ≠ X.env.locals ∧ (∀ x c, X.env.cells.lookup x = some c → c ≠ b) ∧ ∀ p ∈ X.pn ++ pins, p.1 ≠ b
theorem inv_wake {g' : Array GenState} {t' : Nat} {d' : Drawn} (I : Inv X pins σ H s) (un : Un (frs X.stack) [] H H' (cut s.heap L) h') (hok : HOk X.prog X.w H' h') (hg : AllBare g') (ex : Ex H H') (hfl : ∀ b ∈ frs X.stack, b < L)
    (hloc : X.env.locals < L ∨ X.env.locals ∈ Kp) (hkp : ∀ b ∈ Kp, ∀ o, s.heap.get? b = some o → h'.get? b = some o ∧ H' b = none) (hch : ∀ b, L ≤ b → b ∉ Kp → H b = none → Free X pins b) :
    Inv X pins σ H' { s with heap := h', gens := g', drawn := d', toks := t' } := by
  have cg : ∀ {b : Addr} {o : Obj}, b < L → s.heap.get? b = some o → (cut s.heap L).get? b = some o := fun hb e => by rw [cut_get hb]; exact e
  have big : ∀ {b : Addr}, ¬ b < L → L ≤ b := fun h => Nat.le_of_not_lt h
  obtain ⟨ch, hmem⟩ : ∃ ch : List Addr, ∀ b, b ∈ ch ↔ (b < s.heap.objs.size ∧ L ≤ b ∧ b ∉ Kp ∧ H b = none) := ⟨(List.range s.heap.objs.size).filter fun b => decide (L ≤ b) && decide (b ∉ Kp) && (H b).isNone, fun b => by
    simp only [List.mem_filter, List.mem_range, Bool.and_eq_true, decide_eq_true_eq, Option.isNone_iff_eq_none]
    exact ⟨fun ⟨a, ⟨b, c⟩, d⟩ => ⟨a, b, c, d⟩, fun ⟨a, b, c, d⟩ => ⟨a, ⟨b, c⟩, d⟩⟩⟩
  have kept : ∀ {b : Addr} {o : Obj}, ¬ b < L → b ∉ ch → s.heap.get? b = some o → H b = none → h'.get? b = some o ∧ H' b = none := fun {b o} hb hc e n => by
    refine hkp b ?_ o e
    by_cases z : b ∈ Kp
    · exact z
    · exact absurd ((hmem b).mpr ⟨Heap.lt_size e, big hb, z, n⟩) hc
  refine I.step (ch := ch) (fun b hb => let ⟨_, h2, h3, h4⟩ := (hmem b).mp hb; hch b h2 h3 h4) (fun b o hL hf hc e n => ?_) (fun b o hL hf hc e n => ?_) (fun b o hc e n => ?_) (fun b o hc e => ?_) un.tups un.frzs un.tbls (fun m hm => ?_) hok hg
  · by_cases hb : b < L
    · exact un.keep b o (cg hb e) n (fun z => (List.mem_cons.mp (I.stkSub b z)).elim hL hf) (by simp)
    · exact (kept hb hc e n).1
  · by_cases hb : b < L
    · exact un.any (cg hb e) n (by simp)
    · exact ⟨o.slots, (kept hb hc e n).1⟩
  · by_cases hb : b < L
    · exact un.free b o (cg hb e) n (by simp)
    · exact (kept hb hc e n).2
  · by_cases hb : b < L
    · exact un.there b o (cg hb e) (by simp)
    · cases q : H b with
      | none => exact ⟨o, (kept hb hc e q).1⟩
      | some u => exact objok_there (hok b u (ex b u q))
  · obtain ⟨o, es, ep, ho, r⟩ := hm
    rcases hloc with z | z
    · obtain ⟨sl, e⟩ := un.any (cg z ho) I.free (by simp)
      exact ⟨_, es, ep, e, r⟩
    · exact ⟨o, es, ep, (hkp _ z o ho).1, r⟩
theorem xe_wake {P : Program} {w : World} {s0 s' : Shared} {E : XK} {W : WX} {u : Value} (hP : X.prog = P) (hw : X.w = w) (I : Inv X pins σ H s) (e0 : s0.heap = cut s.heap L) (eo : s0.os = s.os) (hfl : ∀ b ∈ frs X.stack, b < L) (hloc : X.env.locals < L)
    (hch : ∀ b, L ≤ b → H b = none → Free X pins b) (hW : ∀ cls d H', E cls d H' → Ex H H' ∧ W cls d σ H') (c : L2N.CX P w X.stack H s0 E u s') : L2N.XE X W u s' := by
  subst hP hw
  obtain ⟨a, B, H', cls, d, rfl, fl, hok, ub, na, os, ag, hE⟩ := c
  obtain ⟨hex, hWW⟩ := hW _ _ _ hE
  rw [e0] at ub
  obtain ⟨Gr, g1, g2⟩ := restrict s'.heap fun b => (B.get? b).isSome || decide (b ∈ frs X.stack)
  have st : B.StaysIn s'.heap := fl.1
  have gB : ∀ b o, B.get? b = some o → Gr.get? b = some o := fun b o e => by
    rw [g1 b (by simp [e])]
    exact st b o e
  have gF : ∀ b, b ∈ frs X.stack → Gr.get? b = s'.heap.get? b := fun b hb => g1 b (by simp [hb])
  have og : ∀ b o, Gr.get? b = some o → s'.heap.get? b = some o ∧ ((B.get? b).isSome = true ∨ b ∈ frs X.stack) := fun b o e => by
    cases q : ((B.get? b).isSome || decide (b ∈ frs X.stack)) with
    | false => rw [g2 b q] at e; cases e
    | true =>
      rw [g1 b q] at e
      exact ⟨e, by simpa [Bool.or_eq_true] using q⟩
  refine ⟨a, B, { s with heap := Gr, gens := s'.gens, drawn := s'.drawn, toks := s'.toks }, pins, σ, H', cls, d, rfl, ?_, fun b o e hb => ?_, Heap.UpToSlots.of_keeps fun b o e => (og b o e).1, .inr (.inl fl), na, os.trans eo, ag, hWW⟩
  · refine inv_wake (L := L) (Kp := []) I ⟨fun b o e n hb _ => gB b o (ub.keep b o e n hb), fun b o e n hb _ => ?_, fun b o e n _ => ub.free b o e n, fun b o e _ => ?_, ub.tups, ub.frzs, ub.tbls⟩ (hok.kept gB) ag hex hfl (.inl hloc) (fun b hb => by simp at hb) fun b h1 _ h2 => hch b h1 h2
    · obtain ⟨sl, q⟩ := ub.slot b o e hb
      exact ⟨sl, by rw [gF b hb]; exact q⟩
    · by_cases hb : b ∈ frs X.stack
      · obtain ⟨sl, q⟩ := ub.slot b o e hb
        exact ⟨_, by rw [gF b hb]; exact q⟩
      · obtain ⟨o', q⟩ := ub.there b o e hb
        exact ⟨o', gB b o' q⟩
  · obtain ⟨e', h⟩ := og b o e
    rcases h with h | h
    · obtain ⟨o', q⟩ := Option.isSome_iff_exists.mp h
      have z := st b o' q
      rw [e'] at z; cases z
      exact q
    · exact absurd h hb
end
structure Slp {G : GG} (D : GD G) (ds : List Mir.D) (fin : Option Exc) (Sg : Hp) (fp : List Addr) (H : Hp) (s : Shared) : Prop where
  isg : s.heap.IsGen D.it D.g
  at_ : ∃ gs, s.gens[D.g]? = some gs ∧ Wk D ds fin Sg fp gs s.heap
  it : D.it ∈ fp
  L : D.L ∈ fp
  ok : ∀ b ∈ fp, (∃ o, s.heap.get? b = some o ∧ ∀ v, o.data ≠ .cell v) ∧ H b = none ∧ D.L ≤ b
def XcOk (G : GG) (n : Nat) : Prop := ∀ c, c < n → PySem.W.subIn G.K (G.xc c) (.type "StopIteration") = some false
section
variable {G : GG} {D : GD G} {X : Cx} {pins : List (Addr × Obj)} {σ : L2.St} {H : Hp} {s : Shared}
structure Wkr (X : Cx) (pins : List (Addr × Obj)) (D : GD G) (Kp : List Addr) (H : Hp) (h : Heap) : Prop where
  prog : X.prog = G.P
  w : X.w = G.w
  K : X.K = G.K
  base : X.base = G.base
  stk : X.stack = D.outer
  room : Room (D.k + 2) X.A
  loc : X.env.locals < D.L ∨ X.env.locals ∈ Kp
  ch : ∀ b, D.L ≤ b → b ∉ Kp → H b = none → Free X pins b
  kp : ∀ b ∈ Kp, (∃ o, h.get? b = some o ∧ ∀ v, o.data ≠ .cell v) ∧ H b = none ∧ D.L ≤ b
  lt : D.L ≤ h.objs.size
def WPost (D : GD G) (X : Cx) (pins : List (Addr × Obj)) (σ : L2.St) (H : Hp) (h : Heap) (Kp : List Addr) (fin : Option Exc) (Sg : Hp) : List Mir.D → Option Value → Shared → Prop
  | [], r, s1 => fin = none ∧ r = none ∧ ∃ S' H', Inv X pins σ H' s1 ∧ Grow Sg H S' H'
  | d :: rest, r, s1 => ∃ u x S' H' fp', r = some u ∧ RelV x u ∧ Rep G S' x d ∧ Inv X pins σ H' s1 ∧ Grow Sg H S' H' ∧ Slp D rest fin S' fp' H' s1 ∧ (∀ gs, s1.gens[D.g]? = some gs → slp gs = true) ∧ (∀ b ∈ Kp, b ∉ fp') ∧ ∀ b ∈ Kp, ∀ o, h.get? b = some o → s1.heap.get? b = some o ∧ H' b = none
theorem wake_ok {n : Nat} {Kp fp : List Addr} {ds : List Mir.D} {fin : Option Exc} {Sg : Hp} (hx : XcOk G n) (hfin : ∀ e, fin = some e → e.c < n) (I : Inv X pins σ H s) (c : Wkr X pins D Kp H s.heap) (z : Slp D ds fin Sg fp H s) (hkf : ∀ b ∈ Kp, b ∉ fp) (ex : Ex Sg H) :
    wpAny (model G.P G.w) X.A (pyNext (.ref D.it)) (WPost D X pins σ H s.heap Kp fin Sg ds)
      (fun u s1 => ds = [] ∧ ∃ e s0, fin = some e ∧ s0.heap = cut s.heap D.L ∧ s0.os = s.os ∧ L2N.CX G.P G.w D.outer H s0 (fun cls dd H' => ∃ S', Grow Sg H S' H' ∧ RepX G S' cls dd e) u s1) s := by
  obtain ⟨cp, cw, cK, cb, cst, room, cloc, cch, ckp, clt⟩ := c
  have hokX : ∀ {H h}, HOk G.P G.w H h → HOk X.prog X.w H h := fun q => by rw [cp, cw]; exact q
  obtain ⟨gs, hgs, hwk⟩ := z.at_
  rw [wk_eq] at hwk
  have hgl : D.g < s.gens.size := (Array.getElem?_eq_some_iff.mp hgs).1
  have rr := room.in1
  have fr : X.A.frames = some D.outer := by rw [I.ok.frames, cst]
  have res : Res D Sg fp s.heap X.A.in1 (s.setGen D.g .running) H Kp := by
    refine ⟨rr, fr, fun b o e => I.bs b o (by rw [cb]; exact e), clt, ?_, fun b hb => I.stkFree b (by rw [cst]; exact hb), (by rw [← cp, ← cw]; exact I.hok), allBare_setGen I.bare rfl, ex, fun b hb o e => ⟨e, (z.ok b hb).2.1⟩, fun b hb => let ⟨a, b', c'⟩ := ckp b hb; ⟨a, b', hkf b hb, c'⟩⟩
    have := I.stack
    rw [cst, cb] at this
    exact this
  refine GenW.wpAny_gsz (n := D.g + 1) hgl (wpAny_nextG room.hd I.nolimit (by have := room.dp; omega) z.isg hgs (hwk _ _ _ _ res) (fun v s1 gs' hY hb hsl => ?_) (fun s1 hF h2 hk2 => ?_) (fun u s1 hE => ?_))
  · intro hsz
    cases ds with
    | nil => exact hY.elim
    | cons d rest =>
      obtain ⟨x, S', H', fp', rv, rep, aft, fpk, wk'⟩ := hY
      have size1 : D.g < s1.gens.size := by
        have q : (s1.setGen D.g gs').gens.size = s1.gens.size := GenW.setGen_size _ _ _
        rw [q] at hsz
        exact hsz
      refine ⟨v, x, S', H', fp', rfl, rv, rep, ?_, aft.grow, ⟨?_, ⟨gs', setGen_at size1, wk'⟩, fpk.it, fpk.L, fun b hb => ⟨(fpk.ok b hb).1, (fpk.ok b hb).2.1, (fpk.ok b hb).2.2.1⟩⟩, fun gs2 q => by rw [setGen_at size1] at q; cases q; exact hsl, fun b hb q => (fpk.ok b q).2.2.2 hb, fun b hb o e => aft.kp b (List.mem_cons_of_mem _ hb) o e⟩
      · have J := inv_wake (g' := (s1.setGen D.g gs').gens) (t' := s1.toks) (d' := s1.drawn) (Kp := Kp) I (by have := aft.un; rw [← cst] at this; exact this) (hokX aft.hok) (allBare_setGen aft.bare hb) aft.grow.h (by rw [cst]; exact D.fl) cloc (fun b hb o e => aft.kp b (List.mem_cons_of_mem _ hb) o e) cch
        have e : s1.setGen D.g gs' = { s with heap := s1.heap, gens := (s1.setGen D.g gs').gens, drawn := s1.drawn, toks := s1.toks } := by
          have := aft.os
          obtain ⟨a1, a2, a3, a4, a5⟩ := s1
          have q : a5 = s.os := this
          subst q
          rfl
        rw [e]
        exact J
      · obtain ⟨o, nm, qn, ho, r⟩ := z.isg
        exact ⟨o, nm, qn, (aft.kp _ List.mem_cons_self o ho).1, r⟩
  · intro _
    obtain ⟨e1, e2, S', H', aft⟩ := hF
    have e1 : ds = [] := e1
    subst e1
    refine ⟨e2, rfl, S', H', ?_, aft.grow⟩
    have un2 : Un (frs X.stack) [] H H' (cut s.heap D.L) h2 := by
      have := aft.un
      rw [← cst] at this
      exact this.trans (Un.kept hk2)
    have J := inv_wake (g' := (s1.setGen D.g .finished).gens) (t' := s1.toks) (d' := s1.drawn) (Kp := Kp) I un2 (hokX (aft.hok.kept hk2)) (allBare_setGen aft.bare rfl) aft.grow.h (by rw [cst]; exact D.fl) cloc (fun b hb o e => let ⟨a, b'⟩ := aft.kp b (List.mem_cons_of_mem _ hb) o e; ⟨hk2 _ _ a, b'⟩) cch
    have e : ({ s1.setGen D.g .finished with heap := h2 } : Shared) = { s with heap := h2, gens := (s1.setGen D.g .finished).gens, drawn := s1.drawn, toks := s1.toks } := by
      have := aft.os
      obtain ⟨a1, a2, a3, a4, a5⟩ := s1
      have q : a5 = s.os := this
      subst q
      rfl
    rw [e]
    exact J
  · obtain ⟨hc, hp⟩ := hE
    obtain ⟨o, nm, qn, ho, r⟩ := z.isg
    have hc0 := hc
    obtain ⟨a, B, H', cls, d, ea, fl, hok, ub, na, os, ag, ⟨q1, e, S', hf, g', rx⟩, hkn⟩ := hc
    refine ⟨⟨o, nm, qn, hp (D.it, o) (mem_pinsAt List.mem_cons_self ho), r⟩, ?_, fun _ => ⟨q1, e, { s with heap := cut s.heap D.L }, hf, rfl, rfl, ?_⟩⟩
    · refine notStop_of (K := G.K) (E := fun cls dd H' => ∃ e S', fin = some e ∧ Grow Sg H S' H' ∧ RepX G S' cls dd e) (fun cls d H' h => ?_) ?_ (show L2.CX G.P G.w D.outer H _ _ u s1 from ⟨a, B, H', cls, d, ea, L2N.fl_weak fl, hok, ub, na, os, ag, e, S', hf, g', rx⟩)
      · obtain ⟨e', S'', hf', _, rx'⟩ := h
        rw [rx'.1]
        exact hx _ (hfin e' hf')
      · refine D.mod.kin.keeps fun b o e => ?_
        have hb : b < D.L := Nat.lt_of_lt_of_le (Heap.lt_size e) D.bsz
        obtain ⟨h1, h2⟩ := I.bs b o (by rw [cb]; exact e)
        have nf : b ∉ frs D.outer := fun z => by
          have := (I.stack.mem (by rw [cst]; exact z)).1
          rw [cb] at this
          rw [e] at this; cases this
        refine fl.1 b o (ub.keep b o ?_ h2 nf)
        show (cut s.heap D.L).get? b = some o
        rw [cut_get hb]; exact h1
    · refine ⟨a, B, H', cls, d, ea, fl, hok, ub, na, os, ?_, S', g', ?_⟩
      · exact allBare_setGen ag rfl
      · exact rx
end
end Mir
set_option maxHeartbeats 1000000
namespace Mir
open PySem PySem.Spec L2
open PyProof.Rows (envOfC AllBare)
theorem asleep_gen {α : Type} {M : Model} {A : Around} {t : Sem α} {Q : α → Shared → Prop} {E : Value → Shared → Prop} {s : Shared} {g : Nat} {gs : GenState} (hb : AllBare s.gens) (hg : s.gens[g]? = some gs) (hs : slp gs = true) (hq : ∀ a s, Q a s → AllBare s.gens ∧ ∀ G', AllBare G' → Q a { s with gens := G' })
    (h : ∀ G', AllBare G' → wpAny M A t Q (fun _ _ => False) { s with gens := G' }) : wpAny M A t (fun a s' => Q a s' ∧ s'.gens[g]? = some gs) E s := by
  have hb' : AllBare (s.gens.map poi) := fun y hy => by
    obtain ⟨x, hx, e⟩ := Array.mem_map.mp hy
    subst e
    rw [poi_bare]
    exact hb x hx
  refine wpAny_mono (wpAny_asleep (h _ hb')) (fun a s' ⟨s1, q, r, e⟩ => ?_) fun u s' ⟨s1, q, _⟩ => q.elim
  obtain ⟨q1, q2⟩ := hq a s1 q
  rw [e]
  exact ⟨q2 _ (r.bare q1), r.asleep hg hs⟩
theorem inv_gens {X : Cx} {pins : List (Addr × Obj)} {σ : L2.St} {H : Hp} {s : Shared} (I : Inv X pins σ H s) {G' : Array GenState} (hg : AllBare G') : Inv X pins σ H { s with gens := G' } :=
  ⟨I.ok, I.os, hg, I.base, I.loc, I.cell, I.free, I.freeC, I.pin, I.hok, I.len⟩
theorem sp_gens {X : Cx} {pins : List (Addr × Obj)} {D : Ends} {f : Flow} {s : Shared} (h : SP X pins D f s) : AllBare s.gens ∧ ∀ G', AllBare G' → SP X pins D f { s with gens := G' } := by
  cases f with
  | next => obtain ⟨σ, H, I, q⟩ := h; exact ⟨I.bare, fun G' hg => ⟨σ, H, inv_gens I hg, q⟩⟩
  | brk => obtain ⟨σ, H, I, q⟩ := h; exact ⟨I.bare, fun G' hg => ⟨σ, H, inv_gens I hg, q⟩⟩
  | cont => obtain ⟨σ, H, I, q⟩ := h; exact ⟨I.bare, fun G' hg => ⟨σ, H, inv_gens I hg, q⟩⟩
  | ret u => obtain ⟨v, σ, H, I, r, q⟩ := h; exact ⟨I.bare, fun G' hg => ⟨v, σ, H, inv_gens I hg, r, q⟩⟩
abbrev Cx.calmly (X : Cx) : Cx := X.tr X.pn (fun _ _ => False)
theorem inv_calm {X : Cx} {pins : List (Addr × Obj)} {σ : L2.St} {H : Hp} {s : Shared} (I : Inv X pins σ H s) : Inv (Cx.calmly X) pins σ H s :=
  ⟨I.ok.toTry _ _, I.os, I.bare, I.base, I.loc, I.cell, I.free, I.freeC, I.pin, I.hok, I.len⟩
theorem inv_uncalm {X : Cx} {pins : List (Addr × Obj)} {σ : L2.St} {H : Hp} {s : Shared} (I : Inv (Cx.calmly X) pins σ H s) : Inv X pins σ H s :=
  ⟨I.ok.ofTry, I.os, I.bare, I.base, I.loc, I.cell, I.free, I.freeC, I.pin, I.hok, I.len⟩
def nxF (F : Fm) : Fm where
  G := F.G
  W := fun _ _ _ _ => False
  N := F.N
  V := F.V
  L := F.L
  kd := F.kd
  Xs := fun Y => ∃ X, F.Xs X ∧ Y = Cx.calmly X
  k := F.k
  cm := F.cm
  top := F.top
  fr := F.fr
  ow := F.ow
  hX := by rintro Y ⟨X, h, rfl⟩; exact F.hX X h
  nd := F.nd
  hkd := by rintro Y ⟨X, h, rfl⟩; exact F.hkd X h
  hki := by rintro Y ⟨X, h, rfl⟩; exact F.hki X h
  vis := by rintro Y ⟨X, h, rfl⟩; exact F.vis X h
  loc := by rintro Y ⟨X, h, rfl⟩; exact F.loc X h
  hc := by rintro hc Y ⟨X, h, rfl⟩; exact F.hc hc X h
  hr := by rintro hc Y ⟨X, h, rfl⟩; exact F.hr hc X h
  hu := by rintro Y ⟨X, h, rfl⟩; exact F.hu X h
  tk := by rintro Y ⟨X, h, rfl⟩; exact L2N.no_takes
  po := by rintro Y ⟨X, h, rfl⟩; exact PassesOwn.never
  ht := by rintro z Y ⟨X, h, rfl⟩; exact F.ht z X h
theorem grow_join {Sg S H Sg' H' : Hp} (a : Ex Sg S) (b : Ex S H) (g : Grow Sg H Sg' H') : ∃ S', Grow S H S' H' ∧ Ex Sg' S' := by
  refine ⟨fun p => (S p).or (Sg' p), ⟨fun p o e => by show (S p).or (Sg' p) = some o; rw [e]; rfl, g.h, fun p o e => ?_, fun p h1 h2 => ?_⟩, fun p o e => ?_⟩
  · have e : (S p).or (Sg' p) = some o := e
    cases q : S p with
    | some u => rw [q] at e; cases e; exact g.h p _ (b p _ q)
    | none => rw [q] at e; exact g.sub p o e
  · show (S p).or (Sg' p) = none
    rw [h2]
    refine g.sep p h1 ?_
    cases q : Sg p with
    | none => rfl
    | some u => rw [a p u q] at h2; cases h2
  · show (S p).or (Sg' p) = some o
    cases q : S p with
    | none => exact e
    | some u =>
      have h1 := g.h p u (b p u q)
      rw [g.sub p o e] at h1
      cases h1
      rfl
section
variable {G : GG} {D : GD G}
theorem wk_keep {ds : List Mir.D} {fin : Option Exc} {S : Hp} {fp : List Addr} {gs : GenState} {h1 h2 : Heap} (w : Wk D ds fin S fp gs h1) (k : ∀ b ∈ fp, ∀ o, h1.get? b = some o → h2.get? b = some o) : Wk D ds fin S fp gs h2 := by
  rw [wk_eq] at w ⊢
  intro A s H Kp r
  exact w A s H Kp ⟨r.room, r.fr, r.bs, r.lt, r.funs, r.frf, r.hok, r.bare, r.ex, fun b hb o e => r.keep b hb o (k b hb o e), r.kp⟩
end
def EG (F : Fm) (k : Nat) (e : Expr) (Γ : Gam) (m : M GR) : Prop := ∀ X, F.Xs X → ∀ pins s σ S H H0, Inv X pins σ H s → Holds F.G H0 σ S H Γ → ∀ ds fin, m = .ok (.don ds fin) →
  wpAny (model F.G.P F.G.w) X.A (eval e X.env) (fun u s' => ∃ S1 H1 sc, Inv X pins σ H1 sc ∧ Grow S H S1 H1 ∧ GMd F.G k X.stack sc S1 ds fin u s') X.xe s
structure GMethK (G : GG) (k c : Nat) (name : Str) (m : List D → GR) : Prop where
  ex : ∃ f fd ps, GFnOk G k f fd ps m ∧ Meth G.K (G.ca c) name f ∧ Cls G.K (G.ca c) ∧ Binds G.K fd ps []
structure GKn (G : GG) (k : Nat) (x : Str) (m : List D → GR) : Prop where
  ex : ∃ f fd ps, GFnOk G k f fd ps m ∧ G.mg x = some (.ref f) ∧ PySem.W.keepIn G.K (.ref f) = true ∧ Binds G.K fd ps []
section
variable {F : Fm} {Γ : Gam} {k : Nat} {o e : Expr} {es : List Expr} {mo : M D} {ml : M (List D)} {pos apos p : Pos}
theorem run_gfnM {X : Cx} {pins : List (Addr × Obj)} {σ : L2.St} {S H : Hp} {s : Shared} {f : Addr} {fd : FuncData} {ps : List Str} {m : List D → GR} {us : List Value} {vs : List V} {das ds : List D} {fin : Option Exc} {E1 : Value → Shared → Prop} (hX : F.Xs X) (ok : GFnOk F.G k f fd ps m) (hb : Binds F.G.K fd ps []) (hr : Room k X.A) (I : Inv X pins σ H s) (r : Vals vs us) (eS : Ex S H) (rS : Reps F.G S vs das) (hm : m das = .don ds fin) :
    wpAny (model F.G.P F.G.w) X.A (call (.ref f) us) (fun u s' => GMd F.G k X.stack s S ds fin u s') E1 s := by
  obtain ⟨h1, h2, h3, h4, h5, _⟩ := F.hX X hX
  have hl : us.length = ps.length := by
    rw [← r.length, rS.length]
    exact ok.len das (fun z => by rw [z] at hm; cases hm)
  have hbb := hb s us (by rw [← h3]; exact I.kIn) (by rw [List.append_nil]; exact hl)
  rw [List.append_nil] at hbb
  have e0 := I.env0
  rw [h1, h2, h3, h4, h5] at e0
  refine wpAny_call (codeAny_mono (ok.run X.A X.stack s H S ⟨us, []⟩ us vs das ds fin hr e0 hbb r eS rS hm) fun rr s' hq => ?_)
  cases rr with
  | error e => exact False.elim hq
  | ok fl =>
    cases fl with
    | ret u => exact hq
    | next => exact False.elim hq
    | brk => exact False.elim hq
    | cont => exact False.elim hq
theorem eg_call {x : Str} {m : List D → GR} (K : GKn F.G k x m) (hk : k ≤ F.k) (hcm : F.cm = true) (hg : F.kd.lookup x = some .globalImplicit) (ha : AM F (e :: es) Γ ml) (hdb : (x == ("__debug__" : Str)) = false := by decide)
    (he : ∀ X, F.Xs X → starEach (e :: es) X.env = (false, eval e X.env) :: starEach es X.env := by intros; rfl) (hpl : ∀ X, F.Xs X → (backTo pos (starEach es X.env)).any (·.1) = false := by intros; rfl) :
    EG F k (.Call (.Name x p) (e :: es) [] pos) Γ (ml.bind fun ds => .ok (m ds)) := by
  intro X hX pins s σ S H H0 I hh ds fin hm
  obtain ⟨f, fd, ps, ok, hmg, hkp, hb⟩ := K.ex
  obtain ⟨h1, h2, h3, h4, h5, _⟩ := F.hX X hX
  obtain ⟨t, q, g⟩ := ha
  rw [← h4] at hmg
  rw [← h3] at hkp
  obtain ⟨das, e1, e2⟩ : ∃ das, ml = .ok das ∧ m das = .don ds fin := by
    cases ml with
    | stk => cases hm
    | exn e => cases hm
    | ok das => exact ⟨das, rfl, by injection hm⟩
  rw [← h1, ← h2]
  refine wpAny_Call_Name_kw (ld_glob I (F.gl X hX hg) hmg ?_ hdb)
  refine PySem.W.callWith_K (h₀ := X.base) I.ok.mod.kin hkp (thn ((q X hX).run pos pins s σ H (fun vs H1 => ∃ S1, Grow S H S1 H1 ∧ Reps F.G S1 vs das) I (g H0 σ S H _ hh ?_)) fun us s1 ⟨vs, H1, I1, r, S1, g1, rS⟩ => ⟨I1.kIn, ?_⟩) (he X hX) (hpl X hX)
  · rw [e1]
    exact fun S' H' g' vs r => ⟨S', g', r⟩
  · rw [h1, h2]
    exact thn (run_gfnM hX ok hb ((F.hr hcm X hX).mono hk) I1 r g1.sub rS e2) fun u s' q => ⟨S1, H1, s1, I1, g1, q⟩
end
theorem gmd_at {F : Fm} {X : Cx} {k : Nat} {pins : List (Addr × Obj)} {σ : L2.St} {S H : Hp} {sc s' : Shared} {ds : List D} {fin : Option Exc} {u : Value} (hX : F.Xs X) (hr : Room (k + 1) X.A) (I : Inv X pins σ H sc) (h : GMd F.G k X.stack sc S ds fin u s') :
    ∃ D : GD F.G, u = .ref D.it ∧ Inv X pins σ H s' ∧ Slp D ds fin S [D.L, D.it] H s' ∧ (∀ H' h', D.L ≤ h'.objs.size → Wkr X pins D [] H' h') ∧ D.L ≤ s'.heap.objs.size := by
  obtain ⟨D, c, hk, ho, hL, hu, hos, hb, keep, isg, hat, hlt, hob, wk⟩ := h
  obtain ⟨h1, h2, h3, h4, h5, _⟩ := F.hX X hX
  have I' : Inv X pins σ H s' := I.call' (ch := []) hos (Un.kept keep) (I.hok.kept keep) hb fun b z => by simp at z
  have fre : ∀ b, D.L ≤ b → H b = none := fun b hb => I.hok.fresh (by rw [← hL]; exact hb)
  have hr' : Room (D.k + 2) X.A := by
    have e : D.k + 2 = k + 1 := by omega
    rw [e]; exact hr
  have lts : D.L ≤ s'.heap.objs.size := Nat.le_trans (Nat.le_of_lt D.itL) (Nat.le_of_lt hlt)
  refine ⟨D, hu, I', ⟨isg, ⟨_, hat, wk⟩, by simp, by simp, fun b hb => ⟨hob b hb, ?_, ?_⟩⟩, fun H' h' hl' => ⟨h1, h2, h3, h5, ho.symm, hr', .inl (by rw [hL]; exact I.lt), fun b hb _ _ => ?_, fun b hb => by simp at hb, hl'⟩, lts⟩
  · have : D.L ≤ b := by
      rcases List.mem_cons.mp hb with z | z
      · rw [z]; exact Nat.le_refl _
      · rw [List.mem_singleton.mp z]; exact Nat.le_of_lt D.itL
    exact fre b this
  · rcases List.mem_cons.mp hb with z | z
    · rw [z]; exact Nat.le_refl _
    · rw [List.mem_singleton.mp z]; exact Nat.le_of_lt D.itL
  · obtain ⟨_, f1, _, f3, f4, f5⟩ := I.fpOk (H' := H) (by rw [← hL]; exact hb) (fre b hb)
    exact ⟨f3, f1, f4, f5⟩
end Mir
set_option maxHeartbeats 1000000
namespace Mir
open PySem PySem.Spec L2
open PyProof.Rows (envOfC AllBare)
def Ctl.nox {X S : Type} : Ctl X S → Ctl X S
  | .exn _ _ => .stk
  | c => c
def finB (n : Nat) : Option Exc → Bool
  | some e => decide (e.c < n)
  | none => true
def genC {X S : Type} (n : Nat) (m : M GR) (k : List D → Option Exc → Ctl X S) : Ctl X S := match m with
  | .ok (.don ds fin) => if finB n fin = true then k ds fin else .stk
  | _ => .stk
def finC {J X S : Type} (xj : J → X) (fin : Option Exc) (k : J → Ctl X S) (j : J) : Ctl X S := match fin with
  | none => k j
  | some e => .exn e (xj j)
theorem nox_exn {X S : Type} (c : Ctl X S) {e : Exc} {x : X} : c.nox ≠ .exn e x := by cases c <;> exact fun z => by cases z
def tSem (F : Fm) (st : Stmt) : TS := fun D σ H => ∀ X, F.Xs X → ∀ pins s, Inv X pins σ H s → wpAny (model X.prog X.w) X.A (exec st X.env) (SP X pins D) X.xe s
theorem ps_sem {F : Fm} {st : Stmt} {X : Cx} (hX : F.Xs X) : PS X st (tSem F st) := ⟨fun pins s σ H D I h => h X hX pins s I⟩
theorem free_fp {X : Cx} {pins : List (Addr × Obj)} {H : Hp} {b : Addr} {L : Nat} (f : Free X pins b) (hn : H b = none) (hf : ∀ b ∈ frs X.stack, b < L) (hL : L ≤ b) (hs : ∀ b ∈ X.fs, b ∈ frs X.stack) : FpOk X pins H b :=
  ⟨hn, f.2.1, fun z => absurd (hf b (hs b z)) (Nat.not_lt.mpr hL), f.1, f.2.2.1, f.2.2.2⟩
theorem fs_stack {X : Cx} (ok : X.Ok) : ∀ b ∈ X.fs, b ∈ frs X.stack := fun b hb => by
  rcases ok.stk with e | ⟨e, hf⟩
  · rw [e]; exact hb
  · rw [e]
    unfold frs
    rw [List.filterMap_cons, hf]
    exact List.mem_cons_of_mem _ hb
section
variable {F : Fm} {Γ : Gam} {X0 S0 J : Type} {fx : X0 → Gam} {fs : S0 → Gam} {rest body : List Stmt} {pos : Pos}
theorem bm_forW {k n : Nat} {m : M GR} {tg iter : Expr} {fj : J → Gam} {j0 : J} {f : D → J → Ctl X0 J} {tf : D → Gam → Option Gam} {xj : J → X0} {kk : J → Ctl X0 S0} (he : EG F k iter Γ m) (hx : XcOk F.G n) (hk : k + 1 ≤ F.k) (hcm : F.cm = true) (wj : Weak Γ (fj j0)) (ht : TgM (nxF F) tg tf) (wx : ∀ j, Weak (fj j) (fx (xj j)))
    (hb : ∀ d j, (∃ Γ', tf d (fj j) = some Γ' ∧ BM (nxF F) body Γ' (((f d j).nox).out fx fj)) ∨ (f d j).nox = .stk) (hr : ∀ j, BM F rest (fj j) ((kk j).out fx fs)) (hs : ∀ X, F.Xs X → ∀ x, foldedSetIterable iter X.env x = pure x := by intros; rfl) :
    BM F (.For tg iter body [] pos :: rest) Γ ((genC n m fun ds fin => (forC (fun d j => (f d j).nox) ds j0).bind (finC xj fin kk)).out fx fs) := by
  refine bm_cons (t := tSem F (.For tg iter body [] pos)) (fun X hX => ps_sem hX) fun S0 H0 Dn σ S H gr hh po => ?_
  intro X hX pins s I
  obtain ⟨ds, fin, hm, hfin, po⟩ : ∃ ds fin, m = .ok (.don ds fin) ∧ (∀ e, fin = some e → e.c < n) ∧ OPo F S0 H0 Dn (((forC (fun d j => (f d j).nox) ds j0).bind (finC xj fin kk)).out fx fs) := by
    cases m with
    | stk => exact False.elim po
    | exn e => exact False.elim po
    | ok r =>
      cases r with
      | stk => exact False.elim po
      | don ds fin =>
        have po : OPo F S0 H0 Dn ((if finB n fin = true then ((forC (fun d j => (f d j).nox) ds j0).bind (finC xj fin kk)) else Ctl.stk).out fx fs) := po
        split at po
        · rename_i hg
          refine ⟨ds, fin, rfl, fun e z => ?_, po⟩
          subst z
          exact of_decide_eq_true hg
        · exact False.elim po
  obtain ⟨h1, h2, h3, h4, h5, _⟩ := F.hX X hX
  have rm := (F.hr hcm X hX).mono hk
  rw [h1, h2]
  refine wpAny_For (wpAny_mono (he X hX pins s σ S H H0 I hh ds fin hm) (fun u s1 hq => ?_) fun _ _ z => z) (hs X hX)
  obtain ⟨S1, H1, sc, I1, g1, gm⟩ := hq
  obtain ⟨D, eu, I2, z2, wk, lt2⟩ := gmd_at hX rm I1 gm
  subst eu
  refine wpAny_pyIter_gen z2.isg ?_
  have hst : X.stack = D.outer := (wk H1 _ lt2).stk
  have hfl : ∀ b ∈ frs X.stack, b < D.L := by rw [hst]; exact D.fl
  have pass : ∀ u s', X.xe u s' → notedBy (model F.G.P F.G.w) X.A X.env (fun e s' => cameBackBy (model F.G.P F.G.w) X.A X.env X.xe e s') u s' := fun u s' hx' => by
    have := F.po X hX u s' hx'
    rw [h1, h2] at this
    exact this
  refine codeAny_forLoop_any (fun n' s' => ∃ i σ' Sg S' H' fp j, n' = ds.length - i ∧ i ≤ ds.length ∧ Inv X pins σ' H' s' ∧ Grow S0 H0 S' H' ∧ Holds F.G H0 σ' S' H' (fj j) ∧ Ex Sg S' ∧ Slp D (ds.drop i) fin Sg fp H' s' ∧ D.L ≤ s'.heap.objs.size ∧ OPo F S0 H0 Dn (((forC (fun d j => (f d j).nox) (ds.drop i) j).bind (finC xj fin kk)).out fx fs)) ?_ ds.length
    ⟨0, σ, S1, S1, H1, _, j0, by simp, Nat.zero_le _, I2, gr.trans g1, (hh.grow g1).weak wj, Same.refl _, z2, lt2, po⟩
  rintro n' s3 ⟨i, σ3, Sg, S3, H3, fp, j, rfl, hi, I3, g3, hh3, e3, z3, lt3, po3⟩
  refine wpAny_mono (wake_ok hx hfin I3 (wk H3 s3.heap lt3) z3 (fun b hb => by simp at hb) (e3.trans g3.sub)) (fun r s4 h4 => ?_) fun u s4 h4 => ?_
  · by_cases hlt : i < ds.length
    · rw [List.drop_eq_getElem_cons hlt] at h4 po3
      obtain ⟨u, x, Sg4, H4, fp4, er, rv, rep, I4, g4, z4, sl4, _, _⟩ := h4
      subst er
      obtain ⟨S4, gg4, e4⟩ := grow_join e3 g3.sub g4
      have po3 : OPo F S0 H0 Dn ((((f ds[i] j).nox.bind (forC (fun d j => (f d j).nox) (ds.drop (i + 1)))).bind (finC xj fin kk)).out fx fs) := po3
      obtain ⟨og, nmg, qng, hog, hcg, hdg, hsg⟩ := id z4.isg
      refine go_of hog hcg hdg (by decide) ?_
      obtain ⟨gs, hgs, hwk⟩ := z4.at_
      have hsl := sl4 gs hgs
      have fpo : ∀ b ∈ fp4, FpOk (Cx.calmly X) pins H4 b := fun b hb => free_fp (X := Cx.calmly X) ((wk H4 s3.heap lt3).ch b (z4.ok b hb).2.2 (by simp) (z4.ok b hb).2.1) (z4.ok b hb).2.1 hfl (z4.ok b hb).2.2 (fun b hb => fs_stack I4.ok b hb)
      have I4' := (inv_calm I4).pinned fpo (fun b hb => (z4.ok b hb).1)
      rcases hb ds[i] j with ⟨Γ', eΓ, hbd⟩ | hstk
      · obtain ⟨gt, pg, eg⟩ := ht
        have hY : (nxF F).Xs (Cx.calmly X) := ⟨X, hX, rfl⟩
        have run1 := asleep_gen (E := fun u s' => notedBy (model F.G.P F.G.w) X.A X.env (fun e s' => cameBackBy (model F.G.P F.G.w) X.A X.env X.xe e s') u s') (M := model F.G.P F.G.w) (A := X.A) (t := assign tg X.env u) (Q := fun _ s' => ∃ σ5 H5, Inv (Cx.calmly X) (pins ++ pinsAt fp4 s4.heap) σ5 H5 s' ∧ H5 = H4 ∧ Holds F.G H0 σ5 S4 H4 Γ') I4.bare hgs hsl
          (fun a s' ⟨σ5, H5, I5, q⟩ => ⟨I5.bare, fun G' hG => ⟨σ5, H5, inv_gens I5 hG, q⟩⟩) fun G' hG => by
            rw [← h1, ← h2]
            exact (pg (Cx.calmly X) hY).run (pins ++ pinsAt fp4 s4.heap) { s4 with gens := G' } σ3 H4 x u (fun σ5 H5 => H5 = H4 ∧ Holds F.G H0 σ5 S4 H4 Γ') (inv_gens I4' hG) rv (eg H0 σ3 S4 H4 x ds[i] (fj j) Γ' _ (hh3.grow gg4) (rep.mono e4) eΓ fun σ5 h5 _ _ => ⟨rfl, h5⟩)
        refine wpAny_mono run1 (fun _ s5 h5 => ?_) fun _ _ z => z
        obtain ⟨⟨σ5, H5, I5, eH, hh5⟩, hgs5⟩ := h5
        subst eH
        have bd := hbd.c S4 H0 { Dn with nx := fun σ6 H6 => ∃ S6 j', Ex S4 S6 ∧ Grow S0 H0 S6 H6 ∧ Holds F.G H0 σ6 S6 H6 (fj j') ∧ OPo F S0 H0 Dn (((forC (fun d j => (f d j).nox) (ds.drop (i + 1)) j').bind (finC xj fin kk)).out fx fs), bk := fun _ _ => False, ct := fun _ _ => False } σ5 S4 H5 (g3.trans gg4).base hh5 (by
            revert po3
            cases hq : (f ds[i] j).nox with
            | stk => exact fun q => q
            | exn e x => exact absurd hq (nox_exn _)
            | ret d => exact fun q => OPo.rebase (F := F) (o := Out.ret d) (g3.trans gg4) q
            | nx j' => exact fun q σ6 S6 H6 g6 hh6 => ⟨S6, j', g6.s, (g3.trans gg4).rebase g6, hh6, q⟩)
        have run2 := asleep_gen (E := fun u s' => notedBy (model F.G.P F.G.w) X.A X.env (fun e s' => cameBackBy (model F.G.P F.G.w) X.A X.env X.xe e s') u s') (M := model F.G.P F.G.w) (A := X.A) (t := execs body X.env) (Q := fun fl s' => SP (Cx.calmly X) (pins ++ pinsAt fp4 s4.heap) _ fl s') I5.bare hgs5 hsl (fun fl s' q => sp_gens q) fun G' hG => by
            rw [← h1, ← h2]
            exact (cB_ok (F := nxF F) (sts := body) (Cx.calmly X) hY).run _ { s5 with gens := G' } σ5 H5 _ (inv_gens I5 hG) bd
        refine wpAny_mono run2 (fun fl s6 h6 => ?_) fun _ _ z => z
        obtain ⟨hsp, hgs6⟩ := h6
        cases fl with
        | next =>
          obtain ⟨σ6, H6, I6, S6, j', g6, gb6, hh6, po6⟩ := hsp
          have pin6 : ∀ b ∈ fp4, ∀ o, s4.heap.get? b = some o → s6.heap.get? b = some o ∧ H6 b = none := fun b hb o eo =>
            let ⟨z1, z2, _⟩ := I6.pin (b, o) (List.mem_append_right _ (List.mem_append_right _ (mem_pinsAt hb eo)))
            ⟨z1, z2⟩
          have I6' := inv_uncalm I6.unpinned
          refine ⟨ds.length - (i + 1), by omega, i + 1, σ6, Sg4, S6, H6, fp4, j', rfl, hlt, I6', gb6, hh6, e4.trans g6, ⟨?_, ⟨gs, hgs6, wk_keep hwk fun b hb o eo => (pin6 b hb o eo).1⟩, z4.it, z4.L, fun b hb => ?_⟩, ?_, po6⟩
          · exact ⟨og, nmg, qng, (pin6 _ z4.it og hog).1, hcg, hdg, hsg⟩
          · obtain ⟨o, ho, hd⟩ := (z4.ok b hb).1
            exact ⟨⟨o, (pin6 b hb o ho).1, hd⟩, (pin6 b hb o ho).2, (z4.ok b hb).2.2⟩
          · exact Nat.le_trans (Nat.le_of_lt D.itL) (Nat.le_of_lt (Heap.lt_size (pin6 _ z4.it og hog).1))
        | cont => obtain ⟨_, _, _, z⟩ := hsp; exact z.elim
        | brk => obtain ⟨_, _, _, z⟩ := hsp; exact z.elim
        | ret v => obtain ⟨x7, σ7, H7, I7, r7, q7⟩ := hsp; exact ⟨x7, σ7, H7, inv_uncalm I7.unpinned, r7, q7⟩
      · rw [hstk] at po3
        exact False.elim po3
    · have ei : i = ds.length := by omega
      subst ei
      rw [List.drop_length] at h4 po3
      obtain ⟨ef, er, S', H', I4, g4⟩ := h4
      subst er ef
      obtain ⟨S4, gg4, e4⟩ := grow_join e3 g3.sub g4
      refine wpAny_execs_nil ⟨σ3, H', I4, ?_⟩
      exact (hr j).c S0 H0 Dn σ3 S4 H' (g3.trans gg4) (hh3.grow gg4) po3
  · obtain ⟨ed, e, s0, ef, ec, eo, hcx⟩ := h4
    have ei : i = ds.length := by
      have := congrArg List.length ed
      rw [List.length_drop] at this
      simp at this
      omega
    subst ei
    rw [List.drop_length] at po3
    have po3 : OPo F S0 H0 Dn ((finC xj fin kk j).out fx fs) := po3
    rw [ef] at po3
    have po3 : OPo F S0 H0 Dn (.exn e (fx (xj j))) := po3
    refine pass u s4 (F.tk X hX u s4 (xe_wake (L := D.L) (E := fun cls dd H' => ∃ S', Grow Sg H3 S' H' ∧ RepX F.G S' cls dd e) (W := F.W) h1 h2 I3 ec eo hfl ?_ (fun b hb hn => (wk H3 s3.heap lt3).ch b hb (by simp) hn) (fun cls dd H' hE => ?_) (by rw [hst]; exact hcx)))
    · rcases (wk H3 s3.heap lt3).loc with z | z
      · exact z
      · simp at z
    · obtain ⟨S', g', rx⟩ := hE
      obtain ⟨S4, gg4, e4⟩ := grow_join e3 g3.sub g'
      refine ⟨g'.h, po3 cls dd σ3 S4 H' (g3.trans gg4) ⟨fj j, hh3.grow gg4, wx j⟩ ?_⟩
      obtain ⟨r1, r2⟩ := rx
      refine ⟨r1, ?_⟩
      rcases r2 with z | ⟨a, dd', vs, b, c, d, r⟩
      · exact .inl z
      · exact .inr ⟨a, dd', vs, b, e4 _ _ c, d, r.mono e4⟩
end
end Mir
set_option maxHeartbeats 1000000
namespace Mir
open PySem PySem.Spec L2
open PyProof.Rows (envOfC AllBare)
section
variable {F : Fm} {Γ : Gam} {scope : Scope} {own : List (Str × Nat)} {V L : List Bool} {kd : List (Str × NameKind)} {elt tg iter : Expr} {ifs : List Expr} {pos : Pos} {f : D → M (List D)} {tf : D → Gam → Option Gam}
end
end Mir
set_option maxHeartbeats 1000000
namespace Mir
open PySem PySem.Spec L2
open PyProof.Rows (envOfC AllBare)
section
variable {F : Fm} {Γ : Gam} {scope : Scope} {own : List (Str × Nat)} {V L : List Bool} {kd : List (Str × NameKind)} {elt tg iter : Expr} {ifs : List Expr} {pos : Pos} {f : D → M (List D)} {tf : D → Gam → Option Gam}
end
end Mir
set_option maxHeartbeats 1000000
namespace Mir
open PySem PySem.Spec L2
open PyProof.Rows (envOfC AllBare)
section
variable {G : GG} {D : GD G}
end
end Mir
set_option maxHeartbeats 1000000
namespace Mir
open PySem PySem.Spec L2
open PyProof.Rows (envOfC AllBare)
section
variable {G : GG} {D : GD G} {X : Cx} {pins : List (Addr × Obj)} {σ : L2.St} {H : Hp} {s : Shared}
end
section
variable {X : Cx} {pins : List (Addr × Obj)} {σ : L2.St} {H H' : Hp} {s : Shared} {L : Nat}
end
section
variable {F : Fm} {Γ : Gam} {scope : Scope} {own : List (Str × Nat)} {V L : List Bool} {kd : List (Str × NameKind)} {elt tg iter : Expr} {ifs : List Expr} {pos : Pos} {f : D → M (List D)} {tf : D → Gam → Option Gam}
end
end Mir
namespace Mir
open PySem PySem.Spec L2
section
variable {F : Fm} {Γ : Gam} {a b : Expr} {ma mb : M D} {pos : Pos}
end
end Mir
namespace Mir
open PySem PySem.Spec L2
open PyProof.Rows (envOfC)
def spE2 (C : Addr) (f1 f2 : Str) : Sp := fun vs H Q E => ∃ a v v2, vs = [.ref a, v, v2] ∧ H a = some (exo a C none) ∧ ∀ dx, H dx = none → dx ≠ a → Q .non (upd (upd (upd H dx (exd dx [(f1, v)])) a (exo a C (some dx))) dx (exd dx [(f2, v2), (f1, v)]))
structure ExI2 (P : Program) (K : PySem.W.Frag) (C cc cda : Addr) (scope : Scope) (qual par par2 fl fl2 : Str) : Prop where
  o : ExI P K C cc cda scope qual par fl
  fld : PySem.W.findIn K (.ref C) fl2 = some none
  pal : scope.names.lookup par2 = some .local
  npa : par2 ≠ ("self" : Str)
  npp : par2 ≠ par
section
variable {P : Program} {w : World} {K : PySem.W.Frag} {mg : Str → Option Value} {base : Heap} {C cc cda f : Addr} {scope : Scope} {qual par par2 fl fl2 : Str}
end
section
variable {F : Fm} {Γ : Gam} {X S : Type} {fx : X → Gam} {fs : S → Gam} {x0 : X} {a b c e o : Expr} {es : List Expr} {ma mb mc m mo me : M D} {ml : M (List D)} {pos apos : Pos} {rest : List Stmt}
structure ExF2 (G : GG) (k : Nat) (x : Str) (c : Nat) (fl fl2 : Str) : Prop where
  ex : ∃ (C fI : Addr) (fd : FuncData) (par par2 : Str) (j : Nat), j + 1 ≤ k ∧ G.xc c = .ref C ∧ G.mg x = some (.ref C) ∧ OexC G.K C ∧ PySem.W.findIn G.K (.ref C) "__init__" = some (some (.ref fI)) ∧ PySem.W.typeIn G.K (.ref fI) = some (.type "function") ∧
    FnOk G.P G.w G.K G.mg G.base (L2N.CX G.P G.w) j fI fd ["self", par, par2] (spE2 C fl fl2) ∧ Binds G.K fd ["self", par, par2] []
theorem ExF2.mono {G : GG} {j k c : Nat} {x fl fl2 : Str} (h : ExF2 G j x c fl fl2) (l : j ≤ k) : ExF2 G k x c fl fl2 := by
  obtain ⟨C, fI, fd, par, par2, i, hi, r⟩ := h.ex
  exact ⟨C, fI, fd, par, par2, i, Nat.le_trans hi l, r⟩
def exnF2 {X S : Type} (c : Nat) (fl fl2 : Str) (x0 : X) : List D → Ctl X S
  | [d, d2] => .exn ⟨c, [(fl2, d2), (fl, d)]⟩ x0
  | _ => .stk
end
section
variable {F : Fm} {Γ : Gam} {a b : Expr} {ma mb : M D} {pos : Pos}
end
end Mir
namespace Mir
open PySem PySem.Spec L2
open PyProof.Rows (envOfC)
structure StaK (G : GG) (k : Nat) (x n : Str) (m : List D → M D) : Prop where
  ex : ∃ (C p f : Addr) (mc : Value) (rest : List Value) (fd : FuncData) (ps : List Str) (j : Nat), j ≤ k ∧ FnOk G.P G.w G.K G.mg G.base (L2N.CX G.P G.w) j f fd ps (spM G m) ∧ G.mg x = some (.ref C) ∧ ClX.CRead G.K C mc ∧
    PySem.W.findCls G.K (.ref C) mc n = some (.get (.builtin "staticmethod.__get__") (.ref p) .none (.ref C)) ∧ PySem.W.recIn G.K p "staticmethod" = some (.ref f :: rest) ∧ PySem.W.keepIn G.K (.ref f) = true ∧ Binds G.K fd ps []
  db : (x == ("__debug__" : Str)) = false
theorem StaK.mono {G : GG} {j k : Nat} {x n : Str} {m : List D → M D} (h : StaK G j x n m) (l : j ≤ k) : StaK G k x n m := by
  obtain ⟨C, p, f, mc, rest, fd, ps, i, hi, r⟩ := h.ex
  exact ⟨⟨C, p, f, mc, rest, fd, ps, i, Nat.le_trans hi l, r⟩, h.db⟩
section
variable {F : Fm} {Γ : Gam} {e : Expr} {es : List Expr} {ml : M (List D)} {pos apos : Pos}
end
end Mir
namespace Mir
open PySem PySem.Spec L2
open PyProof.Rows (envOfC)
open RZ
section
variable {F : Fm} {Γ : Gam} {a b : Expr} {pos : Pos} {G : GG} {S : Hp}
end
end Mir
namespace Mir
open PySem PyProof.Rows Srt SrtO
section
variable {prog : Program} {w : World} {A : Around} {s : Shared}
end
end Mir
namespace Mir
open PySem PySem.Spec L2
open PyProof.Rows (envOfC)
section
variable {F : Fm} {Γ : Gam} {e : Expr} {es : List Expr} {pos : Pos}
end
theorem noNx_exnF {X S : Type} {c : Nat} {f : Str} {x0 : X} {ds : List D} : (exnF (S := S) c f x0 ds).noNx := by
  intro s h
  match ds, h with
  | [], h => cases h
  | [_], h => cases h
  | _ :: _ :: _, h => cases h
end Mir
namespace Mir
open PySem PySem.Spec L2
theorem lsx1 {α : Type} : ∀ {us : List α}, us.length = 1 → ∃ a, us = [a]
  | [a], _ => ⟨a, rfl⟩
theorem lsx2 {α : Type} : ∀ {us : List α}, us.length = 2 → ∃ a b, us = [a, b]
  | [a, b], _ => ⟨a, b, rfl⟩
theorem lsx3 {α : Type} : ∀ {us : List α}, us.length = 3 → ∃ a b c, us = [a, b, c]
  | [a, b, c], _ => ⟨a, b, c, rfl⟩
theorem lsx4 {α : Type} : ∀ {us : List α}, us.length = 4 → ∃ a b c d, us = [a, b, c, d]
  | [a, b, c, d], _ => ⟨a, b, c, d, rfl⟩
theorem lsx5 {α : Type} : ∀ {us : List α}, us.length = 5 → ∃ a b c d e, us = [a, b, c, d, e]
  | [a, b, c, d, e], _ => ⟨a, b, c, d, e, rfl⟩
theorem lsx6 {α : Type} : ∀ {us : List α}, us.length = 6 → ∃ a b c d e f, us = [a, b, c, d, e, f]
  | [a, b, c, d, e, f], _ => ⟨a, b, c, d, e, f, rfl⟩
theorem noNx_exnF2 {X S : Type} {c : Nat} {f g : Str} {x0 : X} {ds : List D} : (exnF2 (S := S) c f g x0 ds).noNx := by
  intro s h
  match ds, h with
  | [], h => cases h
  | [_], h => cases h
  | [_, _], h => cases h
  | _ :: _ :: _ :: _, h => cases h
end Mir
namespace Mir
open PySem PySem.Spec L2
open PyProof.Rows (envOfC)
def txsOk : List Value → List Str → Bool
  | [], [] => true
  | .str y _ :: us, x :: xs => decide (y = x) && txsOk us xs
  | _, _ => false
def ktOk (K : PySem.W.Frag) (a : Addr) (xs : List Str) : Bool := match K.lookup a with
  | some ⟨.type t, _, .seq its _, _⟩ => t == "tuple" && decide (its.size ≤ 64) && txsOk its.toList xs
  | _ => false
structure KdT (G : GG) (x : Str) (xs : List Str) : Prop where
  ex : ∃ a, G.mg x = some (.ref a) ∧ ktOk G.K a xs = true
  db : (x == ("__debug__" : Str)) = false
section
variable {F : Fm} {Γ : Gam} {a b c e : Expr} {es : List Expr} {ma mb mc m me : M D} {pos : Pos}
def seqD : D → M (List D)
  | .tup xs => .ok xs
  | .lst xs => .ok xs
  | _ => .stk
def starM (a : M D) (r : M (List D)) : M (List D) := a.bind fun d => (seqD d).bind fun xs => r.bind fun ds => .ok (xs ++ ds)
theorem am_star {sp : Pos} {ml : M (List D)} (ha : EM F e Γ m) (hr : AM F es Γ ml) (hs : ∀ X, F.Xs X → starEach (.Starred e sp :: es) X.env = (true, eval e X.env) :: starEach es X.env := by intros; rfl) : AM F (.Starred e sp :: es) Γ (starM m ml) := by
  obtain ⟨t, p, f⟩ := ha
  obtain ⟨u, q, g⟩ := hr
  refine ⟨StX.tStar F.G.K t u, fun X hX => (by have h := StX.pa_star (p X hX) (q X hX) (hs X hX); rw [F.hK X hX] at h; exact h), fun H0 σ S H Q hh po => ?_⟩
  refine f H0 σ S H _ hh (Po.bind po |>.imp fun d S1 H1 g1 k v r => ?_)
  cases d with
  | tup xs =>
    cases r with
    | @tup q vs _ h r =>
      refine ⟨q, vs, rfl, .inl (SqT.of (g1.sub _ _ h)), ?_⟩
      refine g H0 σ S1 H1 _ (hh.grow g1) (Po.bind (m := ml) (k := fun ds => .ok (xs ++ ds)) k |>.imp fun ds S2 H2 g2 k2 ws rs => ?_)
      exact Po.ok g2.sub k2 (vs ++ ws) (Reps.append (r.mono g2.s) rs)
  | lst xs =>
    cases r with
    | @lst q vs _ h r =>
      refine ⟨q, vs, rfl, .inr (SqL.of (g1.sub _ _ h)), ?_⟩
      refine g H0 σ S1 H1 _ (hh.grow g1) (Po.bind (m := ml) (k := fun ds => .ok (xs ++ ds)) k |>.imp fun ds S2 H2 g2 k2 ws rs => ?_)
      exact Po.ok g2.sub k2 (vs ++ ws) (Reps.append (r.mono g2.s) rs)
  | _ => exact False.elim k
end
end Mir
namespace Mir
open PySem PySem.Spec L2
open PyProof.Rows (envOfC)
section
open PySem.W
end
structure SfK (G : GG) (c : Nat) : Prop where
  f : PySem.W.selfFirst G.K (G.ca c) = true
section
variable {F : Fm} {Γ : Gam} {a b c e o : Expr} {es : List Expr} {ma mb mc m mo me : M D} {ml : M (List D)} {pos apos : Pos}
end
end Mir
namespace Mir
open PySem PySem.Spec L2
open PyProof.Rows (envOfC)
def KnR (G : GG) (k : Nat) (x : Str) (m : List D → M D) : Prop := ∃ f j, j ≤ k ∧ FnR G.P G.w G.K G.mg G.base (L2N.CX G.P G.w) j f (spM G m) ∧ G.mg x = some (.ref f) ∧ PySem.W.keepIn G.K (.ref f) = true
theorem KnR.mono {G : GG} {j k : Nat} {x : Str} {m : List D → M D} (h : KnR G j x m) (l : j ≤ k) : KnR G k x m := by
  obtain ⟨f, i, hi, r⟩ := h
  exact ⟨f, i, Nat.le_trans hi l, r⟩
section
variable {X : Cx} {CX : CXT} {pins : List (Addr × Obj)} {σ : L2.St} {H : Hp} {s : Shared} {n : Nat} {f : Addr} {sp : Sp} {E : XK}
end
section
variable {F : Fm} {Γ : Gam} {a b c e o : Expr} {es : List Expr} {ma mb mc m mo me : M D} {ml : M (List D)} {pos apos : Pos}
end
end Mir
namespace Mir
open PySem PySem.Spec L2
open PyProof.Rows (envOfC)
inductive Pat where
  | lit (y : Str) | cap (i : Nat) | wild
inductive PatOk (N : List Str) (L : List Bool) : List Pattern → List Pat → Prop
  | nil : PatOk N L [] []
  | lit {y : Str} {j p p2 ps qs} : PatOk N L ps qs → PatOk N L (.MatchValue (.Constant (.str y) j p) p2 :: ps) (.lit y :: qs)
  | cap {x : Str} {i p ps qs} : N[i]? = some x → L[i]? = some true → PatOk N L ps qs → PatOk N L (.MatchAs none (some x) p :: ps) (.cap i :: qs)
  | wild {p ps qs} : PatOk N L ps qs → PatOk N L (.MatchAs none none p :: ps) (.wild :: qs)
inductive BsOk (N : List Str) (L : List Bool) : List (Str × Value) → List (Nat × V) → Prop
  | nil : BsOk N L [] []
  | cons {x : Str} {u : Value} {i : Nat} {v : V} {r q} : N[i]? = some x → L[i]? = some true → RelV v u → BsOk N L r q → BsOk N L ((x, u) :: r) ((i, v) :: q)
theorem PatOk.len {N : List Str} {L : List Bool} {ps : List Pattern} {qs : List Pat} (h : PatOk N L ps qs) : ps.length = qs.length := by
  induction h with
  | nil => rfl
  | lit _ ih => simp [ih]
  | cap _ _ _ ih => simp [ih]
  | wild _ ih => simp [ih]
section
variable {F : Fm} {Γ : Gam} {X S J : Type} {fx : X → Gam} {fs : S → Gam} {x0 : X} {e : Expr} {m : M D} {pos : Pos} {rest body : List Stmt} {cs cases : List MatchCase} {xs : List D}
end
end Mir
namespace Mir
open PySem PySem.Spec L2
open PyProof.Rows (envOfC)
theorem Reps.dropLast {G : GG} {S : Hp} {vs : List V} {ds : List D} (r : Reps G S vs ds) : Reps G S vs.dropLast ds.dropLast := by
  rw [List.dropLast_eq_take, List.dropLast_eq_take, r.length]
  exact r.take _
section
variable {F : Fm} {Γ : Gam} {X S : Type} {fx : X → Gam} {fs : S → Gam} {x0 : X} {a b c e o : Expr} {ma mb mc m mo me : M D} {pos apos : Pos} {rest : List Stmt}
end
end Mir
namespace Mir
open PySem PySem.Spec L2
open PyProof.Rows (envOfC)
section
variable {F : Fm} {Γ : Gam} {b : Expr} {mb : M D} {pos p1 : Pos}
end
end Mir
namespace Mir
open PySem PySem.Spec L2
open PyProof.Rows (envOfC)
section
variable {G : GG} {st : Stmt} {N ps : List Str} {Sc : FnScope N ps (defScope st)} {V : List Bool} {kd : List (Str × NameKind)} {hv : visL N V kd = true} {hkd : (defScope st).names = kd} {qual : Str} {f : Addr} {cdv : Value} {A : Around} {outer : List Env} {s : Shared} {H : Hp} {E : XK} {a : Addr} {oe : Obj} {hu : A.units + 3 + 64 < cLine}
end
def RunA (G : GG) (f : Addr) (fd : FuncData) (p1 : Str) (m : Exc → M D) : Prop :=
  ∀ (A : Around) (outer : List Env) (s : Shared) (H : Hp) (args : Args) (Q : VK) (E : XK) (a : Addr) (oe : Obj) (dd : Option Addr) (e : Exc),
    A.depth < recursionLimit → A.units + 3 + 64 < cLine → L2H.PinOk outer H s (a, oe) → L2N.Zn (G.xc e.c) dd oe → (∃ vs, oe.data = .fields vs) → ((e.fs = [] ∧ dd = none) ∨ (e.fs ≠ [] ∧ ∃ d, dd = some d)) →
    Env0 G.P G.w G.K G.mg G.base A outer s H → BindsTo s fd args [(p1, .ref a)] →
    (∃ S, Ex S H ∧ ExAt G S (refK a dd e) ∧ Po G (fun _ _ _ => False) S H (fun d S' H' => ∀ v, Rep G S' v d → Q v H') (m e)) →
    codeAny (model G.P G.w) A (.call (.ref f) args) (CR (L2N.CX G.P G.w) outer G.P G.w H s Q E) s
structure KnA (G : GG) (x : Str) (m : Exc → M D) : Prop where
  ex : ∃ f fd p1, G.mg x = some (.ref f) ∧ PySem.W.keepIn G.K (.ref f) = true ∧ Binds G.K fd [p1] [] ∧ RunA G f fd p1 m
end Mir
namespace Mir
open PySem PySem.Spec L2
open PyProof.Rows (envOfC)
end Mir
namespace Mir
open PySem PySem.Spec L2
end Mir
set_option maxHeartbeats 1000000
namespace Mir
open PySem PySem.Spec L2
open PyProof.Rows (envOfC)
section
variable {prog : Program} {w : World} {A : Around} {s : Shared} {E : Value → Shared → Prop}
end
section
variable {F : Fm} {Γ : Gam} {e tg iter : Expr} {es : List Expr} {m : M D} {pos : Pos}
end
end Mir
namespace Mir
open PySem PySem.Spec L2
open PyProof.Rows (envOfC)
section
variable {prog : Program} {w : World} {A : Around} {s : Shared} {E : Value → Shared → Prop} {env : Env}
end
inductive PatS (N : List Str) (L : List Bool) : List Pattern → List Pat → Prop
  | last {x : Str} {i p} : N[i]? = some x → L[i]? = some true → PatS N L [.MatchStar (some x) p] [.cap i]
  | lit {y : Str} {j p p2 ps qs} : PatS N L ps qs → PatS N L (.MatchValue (.Constant (.str y) j p) p2 :: ps) (.lit y :: qs)
  | cap {x : Str} {i p ps qs} : N[i]? = some x → L[i]? = some true → PatS N L ps qs → PatS N L (.MatchAs none (some x) p :: ps) (.cap i :: qs)
section
variable {F : Fm} {Γ : Gam} {X S J : Type} {fx : X → Gam} {fs : S → Gam} {x0 : X} {e : Expr} {m : M D} {pos : Pos} {rest body : List Stmt} {cs cases : List MatchCase} {xs : List D}
end
end Mir
namespace Mir
open PySem PySem.Spec L2
section
variable {F : Fm} {Γ : Gam} {X S : Type} {fx : X → Gam} {fs : S → Gam} {x0 : X} {rest body : List Stmt} {cs : List MatchCase} {xs : List D}
end
end Mir
namespace Mir
open PySem PySem.Spec L2
section
variable {F : Fm} {Γ : Gam} {X S : Type} {fx : X → Gam} {fs : S → Gam} {x0 : X} {e : Expr} {m : M D} {rest : List Stmt}
end
end Mir
namespace Mir
open PySem PySem.Spec L2
open PyProof.Rows Srt
section
variable {prog : Program} {w : World} {A : Around} {s : Shared} {E : Value → Shared → Prop}
end
section
variable {F : Fm} {Γ : Gam} {e : Expr} {es : List Expr} {pos : Pos}
end
end Mir
namespace Mir
open PySem PySem.Spec L2
section
variable {F : Fm} {Γ : Gam} {e : Expr} {es : List Expr} {pos : Pos}
end
end Mir
namespace Mir
open PySem PySem.Spec L2
def c_position (p_a p_b p_c : D) : Ctl Unit Unit := M.bindC (b2 pyAdd (b2 pyAdd (b2 pyDiv (b2 pyMul (b2 pyMul (.ok p_c) (b2 pySub (.ok p_c) (.ok (.int 1)))) (b2 pySub (.ok p_c) (.ok (.int 2)))) (.ok (.int 6))) (b2 pyDiv (b2 pyMul (.ok p_b) (b2 pySub (.ok p_b) (.ok (.int 1)))) (.ok (.int 2)))) (.ok p_a)) () Ctl.ret
def m_position : List D → M D := ar3 c_position
def c_turn_of (p_letters p_a p_b p_c : D) : Ctl Unit Unit := M.bindC (.ok (.int 1)) () fun v1_sign => (M.bindC (b1 isB (b2 pyGt (.ok p_a) (.ok p_b))) () fun c => if c = true then (M.bindC (mlist [.ok p_b, .ok p_a, b1 pyNeg (.ok v1_sign)]) () fun v6_vs => unL3 .stk v6_vs fun v3_a v4_b v5_sign => .nx (v3_a, v4_b, v5_sign)) else (.nx (p_a, p_b, v1_sign)) : Ctl Unit (D × D × D)).bind fun (v2_j : D × D × D) => (M.bindC (b1 isB (b2 pyGt (.ok v2_j.2.1) (.ok p_c))) () fun c => if c = true then (M.bindC (mlist [.ok p_c, .ok v2_j.2.1, b1 pyNeg (.ok v2_j.2.2)]) () fun v11_vs => unL3 .stk v11_vs fun v8_b v9_c v10_sign => .nx (v8_b, v9_c, v10_sign)) else (.nx (v2_j.2.1, p_c, v2_j.2.2)) : Ctl Unit (D × D × D)).bind fun (v7_j : D × D × D) => (M.bindC (b1 isB (b2 pyGt (.ok v2_j.1) (.ok v7_j.1))) () fun c => if c = true then (M.bindC (mlist [.ok v7_j.1, .ok v2_j.1, b1 pyNeg (.ok v7_j.2.2)]) () fun v16_vs => unL3 .stk v16_vs fun v13_a v14_b v15_sign => .nx (v13_a, v14_b, v15_sign)) else (.nx (v2_j.1, v7_j.1, v7_j.2.2)) : Ctl Unit (D × D × D)).bind fun (v12_j : D × D × D) => M.bindC (b2 pyIx (.ok p_letters) (b1 m_position (mlist [.ok v12_j.1, .ok v12_j.2.1, .ok v7_j.2.1]))) () fun v17_letter => M.bindC (b1 isB (b2 pyEq (.ok v17_letter) (.ok (.str "?")))) () fun c => if c = true then (M.bindC (.ok (.int 0)) () Ctl.ret) else M.bindC (ifM (b1 isB (b2 pyEq (.ok v17_letter) (.ok (.str "L")))) (.ok v12_j.2.2) (b1 pyNeg (.ok v12_j.2.2))) () Ctl.ret
def m_turn_of : List D → M D := ar4 c_turn_of
def c_breaks_five (p_letters p_x p_a p_b p_c p_d : D) : Ctl Unit Unit := M.bindC (b2 pyMul (b1 m_turn_of (mlist [.ok p_letters, .ok p_x, .ok p_a, .ok p_b])) (b1 m_turn_of (mlist [.ok p_letters, .ok p_x, .ok p_c, .ok p_d]))) () fun v1_first => M.bindC (b2 pyMul (b1 pyNeg (b1 m_turn_of (mlist [.ok p_letters, .ok p_x, .ok p_a, .ok p_c]))) (b1 m_turn_of (mlist [.ok p_letters, .ok p_x, .ok p_b, .ok p_d]))) () fun v2_second => M.bindC (b2 pyMul (b1 m_turn_of (mlist [.ok p_letters, .ok p_x, .ok p_a, .ok p_d])) (b1 m_turn_of (mlist [.ok p_letters, .ok p_x, .ok p_b, .ok p_c]))) () fun v3_third => M.bindC (chM3 pyEq pyEq pyNe (.ok v1_first) (.ok v2_second) (.ok v3_third) (.ok (.int 0))) () Ctl.ret
def m_breaks_five : List D → M D := ar6 c_breaks_five
def c_threes (p_posts : D) : Ctl Unit Unit := M.bindC (lcM (b1 pyRange1 (mlist [.ok p_posts])) (fun v1_c => inM (.ok true) (b1 pyRange1 (mlist [.ok v1_c])) (fun v2_b => inM (.ok true) (b1 pyRange1 (mlist [.ok v2_b])) (fun v3_a => elM (.ok true) (b1 mkTup (mlist [.ok v3_a, .ok v2_b, .ok v1_c])))))) () Ctl.ret
def m_threes : List D → M D := ar1 c_threes
def c_check_posts (p_posts p_named : D) : Ctl Unit Unit := M.bindC (b1 pyEnum (mlist [.ok p_named])) () fun v5_ds => (forC (X := Unit) (S := Unit) (fun v2_t (v1_j : Unit) => un2 .stk v2_t fun v3_k v4_post => M.bindC (orM (notM (b1 isB (chM pyLe pyLt (.ok (.int 0)) (.ok v4_post) (.ok p_posts)))) (b1 isB (b2 (memD false) (.ok v4_post) (slM (.ok p_named) (.ok none) (b1 someI (.ok v3_k)))))) () fun c => if c = true then (.exn ⟨1, []⟩ ()) else .nx ()) v5_ds ()).bind fun (v1_j : Unit) => .nx ()
def m_check_posts : List D → M D := ar2 c_check_posts
def c_check_passing (p_posts p_passing : D) : Ctl Unit Unit := M.bindC (b1 isB (b2 pyNe (b1 pyLen (mlist [.ok p_passing])) (.ok (.int 3)))) () fun c => if c = true then (.exn ⟨1, []⟩ ()) else M.bindC (b1 m_check_posts (mlist [.ok p_posts, .ok p_passing])) () fun _ => .nx ()
def m_check_passing : List D → M D := ar2 c_check_passing
def c_last_breach (p_letters p_a p_b p_c : D) : Ctl Unit Unit := M.bindC (b1 pyRange1 (mlist [.ok p_a])) () fun v23_ds => (forC (X := Unit) (S := Unit) (fun v2_w (v1_j : Unit) => M.bindC (b1 mkLst (mlist [b1 mkTup (mlist [.ok v2_w, .ok p_a, .ok p_b]), b1 mkTup (mlist [.ok v2_w, .ok p_a, .ok p_c]), b1 mkTup (mlist [.ok v2_w, .ok p_b, .ok p_c]), b1 mkTup (mlist [.ok p_a, .ok p_b, .ok p_c])])) () fun v3_four => M.bindC (b1 isB (b2 (memD false) (b2s pyJoin (.ok (.str "")) (lcM (b1 pyItems (.ok v3_four)) (fun v4_t => un3 .stk v4_t fun v5_p v6_q v7_r => elM (.ok true) (b2 pyIx (.ok p_letters) (b1 m_position (mlist [.ok v5_p, .ok v6_q, .ok v7_r])))))) (b1 mkTup (mlist [.ok (.str "LRLR"), .ok (.str "RLRL")])))) () fun c => if c = true then (M.bindC (b1 mkTup (mlist [.ok v2_w, .ok p_a, .ok p_b, .ok p_c])) () Ctl.ret) else .nx ()) v23_ds ()).bind fun (v1_j : Unit) => M.bindC (b1 pyRange1 (mlist [.ok p_a])) () fun v22_ds => (forC (X := Unit) (S := Unit) (fun v9_w (v8_j : Unit) => M.bindC (b1 pyRange1 (mlist [.ok v9_w])) () fun v21_ds => (forC (X := Unit) (S := Unit) (fun v11_v (v10_j : Unit) => M.bindC (b1 pyItems (b1 mkTup (mlist [.ok v11_v, .ok v9_w, .ok p_a, .ok p_b, .ok p_c]))) () fun v20_ds => (forC (X := Unit) (S := Unit) (fun v13_x (v12_j : Unit) => M.bindC (lcM (b1 pyItems (b1 mkTup (mlist [.ok v11_v, .ok v9_w, .ok p_a, .ok p_b, .ok p_c]))) (fun v14_post => elM (b1 isB (b2 pyNe (.ok v14_post) (.ok v13_x))) (.ok v14_post))) () fun v15_t => un4 .stk v15_t fun v16_p v17_q v18_r v19_s => M.bindC (b1 pyTruth (b1 m_breaks_five (mlist [.ok p_letters, .ok v13_x, .ok v16_p, .ok v17_q, .ok v18_r, .ok v19_s]))) () fun c => if c = true then (M.bindC (b1 mkTup (mlist [.ok v13_x, .ok v16_p, .ok v17_q, .ok v18_r, .ok v19_s])) () Ctl.ret) else .nx ()) v20_ds ()).bind fun (v12_j : Unit) => .nx ()) v21_ds ()).bind fun (v10_j : Unit) => .nx ()) v22_ds ()).bind fun (v8_j : Unit) => M.bindC (.ok .non) () Ctl.ret
def m_last_breach : List D → M D := ar4 c_last_breach
def c_breach (p_letters p_posts : D) : Ctl Unit Unit := M.bindC (b1 pyItems (b1 m_threes (mlist [.ok p_posts]))) () fun v7_ds => (forC (X := Unit) (S := Unit) (fun v2_t (v1_j : Unit) => un3 .stk v2_t fun v3_a v4_b v5_c => M.bindC (b1 m_last_breach (mlist [.ok p_letters, .ok v3_a, .ok v4_b, .ok v5_c])) () fun v6_found => M.bindC (b1 isB (b2 pyIsNot (.ok v6_found) (.ok .non))) () fun c => if c = true then (M.bindC (.ok v6_found) () Ctl.ret) else .nx ()) v7_ds ()).bind fun (v1_j : Unit) => M.bindC (.ok .non) () Ctl.ret
def m_breach : List D → M D := ar2 c_breach
def c_Table___init (p_letters : D) : Ctl Unit FsD := M.bindC (orM (notM (b1 pyTruth (b1 (isiD [("NoneType", false), ("bool", false), ("int", false), ("str", true), ("list", false), ("tuple", false)] [(1, false)]) (.ok p_letters)))) (orM (b1 isB (b1 (kdIn [(1, 3), (4, 4), (10, 5), (20, 6), (35, 7), (56, 8)] true) (b1 pyLen (mlist [.ok p_letters])))) (b1 isB (b2 pyNe (b2s pyStripC (.ok p_letters) (.ok (.str "LR"))) (.ok (.str "")))))) () fun c => if c = true then (.exn ⟨1, []⟩ ()) else M.bindC (b1 (kdGet [(1, 3), (4, 4), (10, 5), (20, 6), (35, 7), (56, 8)]) (b1 pyLen (mlist [.ok p_letters]))) () fun v1_posts => M.bindC (b1 m_breach (mlist [.ok p_letters, .ok v1_posts])) () fun v2_found => M.bindC (b1 isB (b2 pyIsNot (.ok v2_found) (.ok .non))) () fun c => if c = true then (M.bindC (mlist [.ok v2_found]) () (exnF 3 "posts" ())) else M.bindC (fsetM "letters" ([]) (.ok p_letters)) () fun v3_self => M.bindC (fsetM "posts" v3_self (.ok v1_posts)) () fun v4_self => .nx v4_self
def m_Table___init : List D → M FsD := arF1 c_Table___init
def c_l_pool (p_script : D) : Ctl Unit Unit := M.bindC (b1 mkLst (mlist [])) () fun v1_pool_here => M.bindC (b1 pyItems (.ok p_script)) () fun v17_ds => (forC (X := Unit) (S := D) (fun v3_cell (v2_j : D) => M.bindC (.ok v3_cell) () fun v4_rest => (M.bindC (b1 isB (b2 pyGe (.ok v3_cell) (b2 pyPow (.ok (.int 10)) (.ok (.int 18))))) () fun c => if c = true then (M.bindC (b1 pyRange1 (mlist [.ok (.int 60)])) () fun v11_ds => (forC (X := Unit) (S := D × D) (fun v7_k (v6_j : D × D) => (M.bindC (b1 isB (b2 pyGt (.ok v6_j.2) (.ok (.int 0)))) () fun c => if c = true then (M.bindC (appM v6_j.1 (b2 pyMod (b1 pyInt (mlist [.ok v6_j.2])) (.ok (.int 1000000)))) () fun v9_pool_here => M.bindC (b2 pyDiv (.ok v6_j.2) (.ok (.int 1000000))) () fun v10_rest => .nx (v9_pool_here, v10_rest)) else (.nx (v6_j.1, v6_j.2)) : Ctl Unit (D × D)).bind fun (v8_j : D × D) => .nx (v8_j.1, v8_j.2)) v11_ds (v2_j, v4_rest)).bind fun (v6_j : D × D) => .nx v6_j.1) else (M.bindC (b1 pyRange1 (mlist [.ok (.int 10)])) () fun v16_ds => (forC (X := Unit) (S := D) (fun v13_k (v12_j : D) => M.bindC (b2 pyMod (b1 pyInt (mlist [b2 pyAdd (b2 pyAdd (b2 pyMul (.ok v3_cell) (.ok (.int 48271))) (b2 pyMul (.ok v13_k) (.ok (.int 69621)))) (.ok (.int 11))])) (.ok (.int 2147483647))) () fun v14_mixed => M.bindC (appM v12_j (b2 pyDiv (b2 pyMod (b1 pyInt (mlist [b2 pyAdd (b2 pyMul (.ok v14_mixed) (.ok (.int 40692))) (.ok v13_k)])) (.ok (.int 2147483399))) (.ok (.int 97)))) () fun v15_pool_here => .nx v15_pool_here) v16_ds v2_j).bind fun (v12_j : D) => .nx v12_j) : Ctl Unit D).bind fun (v5_j : D) => .nx v5_j) v17_ds v1_pool_here).bind fun (v2_j : D) => M.bindC (.ok v2_j) () Ctl.ret
def m_l_pool : List D → M D := ar1 c_l_pool
def c_l_draw (p_pool_here p_k p_many : D) : Ctl Unit Unit := M.bindC (b1 isB (b2 pyLt (.ok p_k) (b1 pyLen (mlist [.ok p_pool_here])))) () fun c => if c = true then (M.bindC (b2 pyMod (b1 pyInt (mlist [b2 pyIx (.ok p_pool_here) (.ok p_k)])) (.ok p_many)) () Ctl.ret) else M.bindC (.ok (.int 0)) () Ctl.ret
def m_l_draw : List D → M D := ar3 c_l_draw
def c_l_cross (p_p p_q p_r : D) : Ctl Unit Unit := M.bindC (b2 pySub (b2 pyMul (b2 pySub (b2 pyIx (.ok p_q) (.ok (.int 0))) (b2 pyIx (.ok p_p) (.ok (.int 0)))) (b2 pySub (b2 pyIx (.ok p_r) (.ok (.int 1))) (b2 pyIx (.ok p_p) (.ok (.int 1))))) (b2 pyMul (b2 pySub (b2 pyIx (.ok p_q) (.ok (.int 1))) (b2 pyIx (.ok p_p) (.ok (.int 1)))) (b2 pySub (b2 pyIx (.ok p_r) (.ok (.int 0))) (b2 pyIx (.ok p_p) (.ok (.int 0)))))) () Ctl.ret
def m_l_cross : List D → M D := ar3 c_l_cross
def c_l_free (p_places_here p_spot : D) : Ctl Unit Unit := M.bindC (b1 pyRange1 (mlist [b1 pyLen (mlist [.ok p_places_here])])) () fun v6_ds => (forC (X := Unit) (S := Unit) (fun v2_k (v1_j : Unit) => M.bindC (b1 isB (b2 pyEq (b2 pyIx (.ok p_places_here) (.ok v2_k)) (.ok p_spot))) () fun c => if c = true then (M.bindC (.ok (.bl false)) () Ctl.ret) else M.bindC (b1 pyRange1 (mlist [.ok v2_k])) () fun v5_ds => (forC (X := Unit) (S := Unit) (fun v4_j (v3_j : Unit) => M.bindC (b1 isB (b2 pyEq (b1 m_l_cross (mlist [b2 pyIx (.ok p_places_here) (.ok v4_j), b2 pyIx (.ok p_places_here) (.ok v2_k), .ok p_spot])) (.ok (.int 0)))) () fun c => if c = true then (M.bindC (.ok (.bl false)) () Ctl.ret) else .nx ()) v5_ds ()).bind fun (v3_j : Unit) => .nx ()) v6_ds ()).bind fun (v1_j : Unit) => M.bindC (.ok (.bl true)) () Ctl.ret
def m_l_free : List D → M D := ar2 c_l_free
def c_l_places (p_pool_here p_at p_posts : D) : Ctl Unit Unit := M.bindC (b1 mkLst (mlist [])) () fun v1_places_here => M.bindC (b1 pyRange1 (mlist [.ok p_posts])) () fun v11_ds => (forC (X := Unit) (S := D) (fun v3_k (v2_j : D) => M.bindC (b1 m_l_draw (mlist [.ok p_pool_here, b2 pyAdd (.ok p_at) (b2 pyMul (.ok (.int 2)) (.ok v3_k)), .ok (.int 1000)])) () fun v4_x => M.bindC (b1 m_l_draw (mlist [.ok p_pool_here, b2 pyAdd (b2 pyAdd (.ok p_at) (b2 pyMul (.ok (.int 2)) (.ok v3_k))) (.ok (.int 1)), .ok (.int 1000)])) () fun v5_y => M.bindC (b1 pyRange1 (mlist [.ok (.int 60)])) () fun v10_ds => (forC (X := Unit) (S := D) (fun v7_j (v6_j : D) => (M.bindC (nofs (andM (b1 isB (b2 pyEq (b1 pyLen (mlist [.ok v6_j])) (.ok v3_k))) (b1 pyTruth (b1 m_l_free (mlist [.ok v6_j, b1 mkTup (mlist [b2 pyAdd (.ok v4_x) (.ok v7_j), b2 pyAdd (.ok v5_y) (b2 pyMul (.ok v7_j) (.ok v7_j))])]))))) () fun c => if c = true then (M.bindC (appM v6_j (b1 mkTup (mlist [b2 pyAdd (.ok v4_x) (.ok v7_j), b2 pyAdd (.ok v5_y) (b2 pyMul (.ok v7_j) (.ok v7_j))]))) () fun v9_places_here => .nx v9_places_here) else (.nx v6_j) : Ctl Unit D).bind fun (v8_j : D) => .nx v8_j) v10_ds v2_j).bind fun (v6_j : D) => .nx v6_j) v11_ds v1_places_here).bind fun (v2_j : D) => M.bindC (.ok v2_j) () Ctl.ret
def m_l_places : List D → M D := ar3 c_l_places
def c_l_turns (p_places_here : D) : Ctl Unit Unit := M.bindC (.ok (.dct [])) () fun v1_turns_here => M.bindC (b1 pyRange1 (mlist [b1 pyLen (mlist [.ok p_places_here])])) () fun v13_ds => (forC (X := Unit) (S := D) (fun v3_a (v2_j : D) => M.bindC (b1 pyRange1 (mlist [b1 pyLen (mlist [.ok p_places_here])])) () fun v12_ds => (forC (X := Unit) (S := D) (fun v5_b (v4_j : D) => M.bindC (b1 pyRange1 (mlist [b1 pyLen (mlist [.ok p_places_here])])) () fun v11_ds => (forC (X := Unit) (S := D) (fun v7_c (v6_j : D) => (M.bindC (andM (b1 isB (b2 pyNe (.ok v3_a) (.ok v5_b))) (andM (b1 isB (b2 pyNe (.ok v3_a) (.ok v7_c))) (b1 isB (b2 pyNe (.ok v5_b) (.ok v7_c))))) () fun c => if c = true then (M.bindC (b1 m_l_cross (mlist [b2 pyIx (.ok p_places_here) (.ok v3_a), b2 pyIx (.ok p_places_here) (.ok v5_b), b2 pyIx (.ok p_places_here) (.ok v7_c)])) () fun v9_size => M.bindC (setM v6_j (b2 pySub (b1 pyInt (mlist [b2 pyGt (.ok v9_size) (.ok (.int 0))])) (b1 pyInt (mlist [b2 pyLt (.ok v9_size) (.ok (.int 0))]))) (b1 mkTup (mlist [.ok v3_a, .ok v5_b, .ok v7_c]))) () fun v10_turns_here => .nx v10_turns_here) else (.nx v6_j) : Ctl Unit D).bind fun (v8_j : D) => .nx v8_j) v11_ds v4_j).bind fun (v6_j : D) => .nx v6_j) v12_ds v2_j).bind fun (v4_j : D) => .nx v4_j) v13_ds v1_turns_here).bind fun (v2_j : D) => M.bindC (.ok v2_j) () Ctl.ret
def m_l_turns : List D → M D := ar1 c_l_turns
def c_l_letters (p_turns_here p_posts : D) : Ctl Unit Unit := M.bindC (.ok (.str "")) () fun v1_letters_here => M.bindC (b1 pyRange1 (mlist [.ok p_posts])) () fun v11_ds => (forC (X := Unit) (S := D) (fun v3_c (v2_j : D) => M.bindC (b1 pyRange1 (mlist [.ok v3_c])) () fun v10_ds => (forC (X := Unit) (S := D) (fun v5_b (v4_j : D) => M.bindC (b1 pyRange1 (mlist [.ok v5_b])) () fun v9_ds => (forC (X := Unit) (S := D) (fun v7_a (v6_j : D) => M.bindC (b2 pyAdd (.ok v6_j) (b2 pyIx (b1 mkLst (mlist [.ok (.str "R"), .ok (.str "L")])) (b1 pyInt (mlist [b2 pyEq (b2 pyIx (.ok p_turns_here) (b1 mkTup (mlist [.ok v7_a, .ok v5_b, .ok v3_c]))) (.ok (.int 1))])))) () fun v8_letters_here => .nx v8_letters_here) v9_ds v4_j).bind fun (v6_j : D) => .nx v6_j) v10_ds v2_j).bind fun (v4_j : D) => .nx v4_j) v11_ds v1_letters_here).bind fun (v2_j : D) => M.bindC (.ok v2_j) () Ctl.ret
def m_l_letters : List D → M D := ar2 c_l_letters
end Mir
namespace Mir
abbrev Pt := Int × Int
def crs (p q r : Pt) : Int := (q.1 - p.1) * (r.2 - p.2) - (q.2 - p.2) * (r.1 - p.1)
theorem crs_swap (p q r : Pt) : crs q p r = - crs p q r := by unfold crs; grind
theorem crs_swap2 (p q r : Pt) : crs p r q = - crs p q r := by unfold crs; grind
theorem crs4 (w a b c : Pt) : crs w a b - crs w a c + crs w b c - crs a b c = 0 := by unfold crs; grind
theorem crs5 (x a b c d : Pt) : crs x a b * crs x c d - crs x a c * crs x b d + crs x a d * crs x b c = 0 := by unfold crs; grind
theorem par3 {A B C j k m : Int} (hj : A * (j * j) - B * j + C = 0) (hk : A * (k * k) - B * k + C = 0) (hm : A * (m * m) - B * m + C = 0) (h1 : j ≠ k) (h2 : j ≠ m) (h3 : k ≠ m) : A = 0 ∧ B = 0 := by
  have e1 : (j - k) * (A * (j + k) - B) = 0 := by grind
  have e2 : (j - m) * (A * (j + m) - B) = 0 := by grind
  have e3 : A * (j + k) - B = 0 := by
    rcases Int.mul_eq_zero.mp e1 with h | h
    · omega
    · exact h
  have e4 : A * (j + m) - B = 0 := by
    rcases Int.mul_eq_zero.mp e2 with h | h
    · omega
    · exact h
  have e5 : A * (k - m) = 0 := by grind
  rcases Int.mul_eq_zero.mp e5 with h | h
  · refine ⟨h, ?_⟩
    subst h
    omega
  · omega
section
variable {α : Type}
theorem countP_or (p q : α → Bool) : ∀ l : List α, l.countP (fun x => p x || q x) ≤ l.countP p + l.countP q
  | [] => by simp
  | x :: l => by
    have ih := countP_or p q l
    simp only [List.countP_cons]
    cases p x <;> cases q x <;> simp <;> omega
theorem countP_le2 {l : List α} (hn : l.Nodup) {p : α → Bool} (h : ∀ a b c, p a = true → p b = true → p c = true → a ≠ b → a ≠ c → b ≠ c → False) : l.countP p ≤ 2 := by
  rw [List.countP_eq_length_filter]
  have hs : (l.filter p).Nodup := hn.sublist List.filter_sublist
  have hp : ∀ x ∈ l.filter p, p x = true := fun x hx => (List.mem_filter.mp hx).2
  match hf : l.filter p, hs, hp with
  | [], _, _ => simp
  | [_], _, _ => simp
  | [_, _], _, _ => simp
  | a :: b :: c :: r, hs, hp =>
    exfalso
    simp only [List.nodup_cons, List.mem_cons] at hs
    refine h a b c (hp a (by simp)) (hp b (by simp)) (hp c (by simp)) (fun e => hs.1 (.inl e)) (fun e => hs.1 (.inr (.inl e))) (fun e => hs.2.1 (.inl e))
theorem countP_le1 {l : List α} (hn : l.Nodup) {p : α → Bool} (h : ∀ a b, p a = true → p b = true → a ≠ b → False) : l.countP p ≤ 1 := by
  rw [List.countP_eq_length_filter]
  have hs : (l.filter p).Nodup := hn.sublist List.filter_sublist
  have hp : ∀ x ∈ l.filter p, p x = true := fun x hx => (List.mem_filter.mp hx).2
  match hf : l.filter p, hs, hp with
  | [], _, _ => simp
  | [_], _, _ => simp
  | a :: b :: r, hs, hp =>
    exfalso
    simp only [List.nodup_cons, List.mem_cons] at hs
    exact h a b (hp a (by simp)) (hp b (by simp)) (fun e => hs.1 (.inl e))
theorem countP_any {l : List α} (p : Nat → α → Bool) (c : Nat → Nat) : ∀ m : Nat, (∀ k, k < m → l.countP (p k) ≤ c k) → l.countP (fun x => (List.range m).any fun k => p k x) ≤ ((List.range m).map c).sum
  | 0, _ => by simp
  | m + 1, h => by
    have ih := countP_any p c m fun k hk => h k (by omega)
    have hm := h m (by omega)
    have e : (fun x => (List.range (m + 1)).any fun k => p k x) = fun x => ((List.range m).any fun k => p k x) || p m x := by
      funext x
      rw [List.range_succ, List.any_append]
      simp
    rw [e, List.range_succ, List.map_append, List.sum_append]
    have := countP_or (fun x => (List.range m).any fun k => p k x) (p m) l
    simp
    omega
end
def gp (l : List Pt) (k : Nat) : Pt := l.getD k (0, 0)
def badJ (l : List Pt) (s : Pt) (k j : Nat) : Bool := decide (crs (gp l j) (gp l k) s = 0)
def badK (l : List Pt) (s : Pt) (k : Nat) : Bool := decide (gp l k = s) || (List.range k).any (badJ l s k)
def freeB (l : List Pt) (s : Pt) : Bool := !(List.range l.length).any (badK l s)
def spotAt (x y : Int) (j : Nat) : Pt := (x + (j : Int), y + (j : Int) * (j : Int))
structure GP (l : List Pt) : Prop where
  ne : ∀ i k, i < k → k < l.length → gp l i ≠ gp l k
  cr : ∀ i j k, i < j → j < k → k < l.length → crs (gp l i) (gp l j) (gp l k) ≠ 0
theorem spot_count1 (p : Pt) (x y : Int) : (List.range 60).countP (fun j => decide (p = spotAt x y j)) ≤ 1 := by
  refine countP_le1 List.nodup_range fun a b ha hb hab => ?_
  have ha := of_decide_eq_true ha
  have hb := of_decide_eq_true hb
  rw [ha] at hb
  unfold spotAt at hb
  simp only [Prod.mk.injEq] at hb
  omega
theorem spot_count2 (p q : Pt) (x y : Int) (hpq : p ≠ q) : (List.range 60).countP (fun j => decide (crs p q (spotAt x y j) = 0)) ≤ 2 := by
  refine countP_le2 List.nodup_range fun a b c ha hb hc hab hac hbc => ?_
  have ha := of_decide_eq_true ha
  have hb := of_decide_eq_true hb
  have hc := of_decide_eq_true hc
  unfold crs spotAt at ha hb hc
  dsimp only at ha hb hc
  have := par3 (A := q.1 - p.1) (B := q.2 - p.2) (C := (q.1 - p.1) * (y - p.2) - (q.2 - p.2) * (x - p.1)) (j := a) (k := b) (m := c) (by grind) (by grind) (by grind) (by omega) (by omega) (by omega)
  apply hpq
  obtain ⟨p1, p2⟩ := p
  obtain ⟨q1, q2⟩ := q
  simp only [Prod.mk.injEq] at *
  omega
theorem sum_const : ∀ n c : Nat, ((List.range n).map fun _ => c).sum = n * c
  | 0, c => by simp
  | n + 1, c => by rw [List.range_succ, List.map_append, List.sum_append, sum_const n c, Nat.succ_mul]; simp
theorem exists_free (l : List Pt) (g : GP l) (hl : l.length ≤ 7) (x y : Int) : ∃ j, j < 60 ∧ freeB l (spotAt x y j) = true := by
  have h1 : (List.range 60).countP (fun j => (List.range l.length).any fun k => badK l (spotAt x y j) k) ≤ ((List.range l.length).map fun k => 1 + k * 2).sum := by
    refine countP_any (fun k j => badK l (spotAt x y j) k) (fun k => 1 + k * 2) _ fun k hk => ?_
    refine Nat.le_trans (countP_or (fun j => decide (gp l k = spotAt x y j)) (fun j => (List.range k).any (badJ l (spotAt x y j) k)) _) ?_
    refine Nat.add_le_add (spot_count1 _ x y) ?_
    rw [← sum_const]
    refine countP_any (fun i j => badJ l (spotAt x y j) k i) (fun _ => 2) k fun i hi => ?_
    exact spot_count2 _ _ x y (g.ne i k hi hk)
  have h2 : ∀ n, n ≤ 7 → ((List.range n).map fun k => 1 + k * 2).sum ≤ 49 := by decide
  have h3 := h2 _ hl
  by_cases h : ∃ j, j < 60 ∧ freeB l (spotAt x y j) = true
  · exact h
  · exfalso
    have : (List.range 60).countP (fun j => (List.range l.length).any fun k => badK l (spotAt x y j) k) = (List.range 60).length := by
      rw [List.countP_eq_length]
      intro j hj
      cases hb : (List.range l.length).any fun k => badK l (spotAt x y j) k with
      | true => rfl
      | false =>
        exfalso
        refine h ⟨j, List.mem_range.mp hj, ?_⟩
        unfold freeB
        rw [show (List.range l.length).any (badK l (spotAt x y j)) = false from hb]
        rfl
    rw [this, List.length_range] at h1
    omega
theorem gp_lt {l : List Pt} {s : Pt} {k : Nat} (h : k < l.length) : gp (l ++ [s]) k = gp l k := by
  unfold gp
  rw [List.getD_eq_getElem?_getD, List.getElem?_append_left h, ← List.getD_eq_getElem?_getD]
theorem gp_last {l : List Pt} {s : Pt} : gp (l ++ [s]) l.length = s := by
  unfold gp
  rw [List.getD_eq_getElem?_getD, List.getElem?_append_right (Nat.le_refl _)]
  simp
theorem GP.nil : GP [] := ⟨fun _ _ _ h => by simp at h, fun _ _ _ _ _ h => by simp at h⟩
theorem freeB_iff {l : List Pt} {s : Pt} (h : freeB l s = true) : ∀ k, k < l.length → gp l k ≠ s ∧ ∀ j, j < k → crs (gp l j) (gp l k) s ≠ 0 := by
  intro k hk
  unfold freeB at h
  have h1 : badK l s k = false := by
    cases hb : badK l s k with
    | false => rfl
    | true =>
      have : (List.range l.length).any (badK l s) = true := List.any_eq_true.mpr ⟨k, List.mem_range.mpr hk, hb⟩
      rw [this] at h
      cases h
  unfold badK at h1
  rw [Bool.or_eq_false_iff] at h1
  refine ⟨of_decide_eq_false h1.1, fun j hj => ?_⟩
  have h2 := h1.2
  cases hb : badJ l s k j with
  | false => exact of_decide_eq_false hb
  | true =>
    have : (List.range k).any (badJ l s k) = true := List.any_eq_true.mpr ⟨j, List.mem_range.mpr hj, hb⟩
    rw [this] at h2
    cases h2
theorem GP.snoc {l : List Pt} {s : Pt} (g : GP l) (h : freeB l s = true) : GP (l ++ [s]) := by
  have hf := freeB_iff h
  refine ⟨fun i k hi hk => ?_, fun i j k hi hj hk => ?_⟩
  · rw [List.length_append, List.length_singleton] at hk
    rcases Nat.lt_or_ge k l.length with hk' | hk'
    · rw [gp_lt hk', gp_lt (Nat.lt_trans hi hk')]
      exact g.ne i k hi hk'
    · have : k = l.length := by omega
      subst this
      rw [gp_last, gp_lt hi]
      exact (hf i hi).1
  · rw [List.length_append, List.length_singleton] at hk
    rcases Nat.lt_or_ge k l.length with hk' | hk'
    · rw [gp_lt hk', gp_lt (Nat.lt_trans hj hk'), gp_lt (Nat.lt_trans hi (Nat.lt_trans hj hk'))]
      exact g.cr i j k hi hj hk'
    · have : k = l.length := by omega
      subst this
      rw [gp_last, gp_lt hj, gp_lt (Nat.lt_trans hi hj)]
      exact (hf j hj).2 i hi
def sgn (z : Int) : Int := (if 0 < z then 1 else 0) - (if z < 0 then 1 else 0)
theorem sgn_neg (z : Int) : sgn (-z) = - sgn z := by unfold sgn; split <;> split <;> split <;> split <;> omega
def ptT (l : List Pt) (a b c : Nat) : Int := sgn (crs (gp l a) (gp l b) (gp l c))
theorem ptT_swap (l : List Pt) (a b c : Nat) : ptT l b a c = - ptT l a b c := by unfold ptT; rw [crs_swap, sgn_neg]
theorem ptT_swap2 (l : List Pt) (a b c : Nat) : ptT l a c b = - ptT l a b c := by unfold ptT; rw [crs_swap2, sgn_neg]
theorem sgn_cases (z : Int) : (0 < z ∧ sgn z = 1) ∨ (z < 0 ∧ sgn z = -1) ∨ (z = 0 ∧ sgn z = 0) := by unfold sgn; split <;> split <;> omega
theorem GP.all {l : List Pt} (g : GP l) {a b c : Nat} (ha : a < l.length) (hb : b < l.length) (hc : c < l.length) (hab : a ≠ b) (hac : a ≠ c) (hbc : b ≠ c) : crs (gp l a) (gp l b) (gp l c) ≠ 0 := by
  have k := g.cr
  rcases Nat.lt_or_gt_of_ne hab with h1 | h1 <;> rcases Nat.lt_or_gt_of_ne hac with h2 | h2 <;> rcases Nat.lt_or_gt_of_ne hbc with h3 | h3 <;> try omega
  · exact k a b c h1 h3 hc
  · have := k a c b h2 h3 hb; rw [crs_swap2]; omega
  · have := k c a b h2 h1 hb; rw [crs_swap2, crs_swap]; omega
  · have := k b a c h1 h2 hc; rw [crs_swap]; omega
  · have := k b c a h3 h2 ha; rw [crs_swap, crs_swap2]; omega
  · have := k c b a h3 h1 ha; rw [crs_swap, crs_swap2, crs_swap]; omega
theorem GP.turn {l : List Pt} (g : GP l) {a b c : Nat} (ha : a < l.length) (hb : b < l.length) (hc : c < l.length) (hab : a ≠ b) (hac : a ≠ c) (hbc : b ≠ c) : ptT l a b c = 1 ∨ ptT l a b c = -1 := by
  have := g.all ha hb hc hab hac hbc
  rcases sgn_cases (crs (gp l a) (gp l b) (gp l c)) with h | h | h
  · exact .inl h.2
  · exact .inr h.2
  · exact absurd h.1 this
def tn (f : Nat → Nat → Nat → Int) (a b c : Nat) : Int :=
  if a < b then (if b < c then f a b c else if a < c then - f a c b else f c a b)
  else (if a < c then - f b a c else if b < c then f b c a else - f c b a)
def brk5 (t : Nat → Nat → Nat → Int) (x a b c d : Nat) : Prop := t x a b * t x c d = - t x a c * t x b d ∧ - t x a c * t x b d = t x a d * t x b c ∧ t x a d * t x b c ≠ 0
theorem sgn_mul (x y : Int) : sgn (x * y) = sgn x * sgn y := by
  rcases sgn_cases x with ⟨h, e⟩ | ⟨h, e⟩ | ⟨h, e⟩ <;> rcases sgn_cases y with ⟨i, f⟩ | ⟨i, f⟩ | ⟨i, f⟩ <;> rw [e, f]
  · have := Int.mul_pos h i
    rcases sgn_cases (x * y) with q | q | q <;> omega
  · have := Int.mul_neg_of_pos_of_neg h i
    rcases sgn_cases (x * y) with q | q | q <;> omega
  · subst i; simp [sgn]
  · have := Int.mul_neg_of_neg_of_pos h i
    rcases sgn_cases (x * y) with q | q | q <;> omega
  · have := Int.mul_pos_of_neg_of_neg h i
    rcases sgn_cases (x * y) with q | q | q <;> omega
  · subst i; simp [sgn]
  all_goals (subst h; simp [sgn])
theorem pt_r5 {l : List Pt} {x a b c d : Nat} : ¬ brk5 (ptT l) x a b c d := by
  intro h
  obtain ⟨h1, h2, h3⟩ := h
  have e := crs5 (gp l x) (gp l a) (gp l b) (gp l c) (gp l d)
  unfold ptT at h1 h2 h3
  rw [Int.neg_mul, ← sgn_mul, ← sgn_mul, ← sgn_neg] at h1
  rw [Int.neg_mul, ← sgn_mul, ← sgn_mul, ← sgn_neg] at h2
  rw [← sgn_mul] at h3
  generalize crs (gp l x) (gp l a) (gp l b) * crs (gp l x) (gp l c) (gp l d) = u at *
  generalize crs (gp l x) (gp l a) (gp l c) * crs (gp l x) (gp l b) (gp l d) = v at *
  generalize crs (gp l x) (gp l a) (gp l d) * crs (gp l x) (gp l b) (gp l c) = w at *
  rcases sgn_cases u with h | h | h <;> rcases sgn_cases (-v) with i | i | i <;> rcases sgn_cases w with j | j | j <;> omega
end Mir
namespace Mir
open PySem PySem.Spec L2
def intsD (l : List Int) : D := .lst (l.map D.int)
@[simp] theorem mkLst_nil : mkLst [] = .ok (.lst []) := id rfl
theorem app_ints {l : List Int} {z : Int} (h : l.length < 1000000) : appM (intsD l) (.ok (.int z)) = .ok (intsD (l ++ [z])) := by
  unfold intsD
  show (if (l.map D.int).length < sizeLine then M.ok (D.lst (l.map D.int ++ [D.int z])) else .stk) = _
  rw [if_pos (by rw [List.length_map]; exact sz_big h), List.map_append]
  rfl
theorem pow_ii {a b : Int} (h : 0 ≤ b ∧ b ≤ 1000000 ∧ a.natAbs < 2 ^ 64) : pyPow (.int a) (.int b) = .ok (.int (a ^ b.toNat)) := if_pos h
abbrev PoolInv (n : Nat) (d : D) : Prop := ∃ l : List Int, d = intsD l ∧ l.length ≤ n
theorem pool_ok (ns : List Int) (hn : ns.length ≤ 63) : ∃ l : List Int, m_l_pool [.scr ns] = .ok (intsD l) ∧ l.length ≤ 3780 := by
  have main : RetIs (c_l_pool (.scr ns)) (PoolInv 3780) := by
    unfold c_l_pool
    rw [show b1 mkLst (mlist []) = .ok (.lst []) from rfl, bindC_ok, show b1 pyItems (.ok (D.scr ns)) = .ok (ns.map D.int) from rfl, bindC_ok]
    refine NxIs.ret (loop_nx (fun i d => PoolInv (60 * i) d) ⟨[], rfl, Nat.zero_le _⟩ ?_) ?_
    · rintro j d s hj ⟨l, rfl, hl⟩
      rw [List.getElem?_map] at hj
      obtain ⟨z, hz, rfl⟩ := Option.map_eq_some_iff.mp hj
      have hj' : j < ns.length := (List.getElem?_eq_some_iff.mp hz).1
      rw [bindC_ok, b2_ok, pow_ii (by decide), b2_ok, ge_ii, b1_ok, isB_bl, bindC_ok]
      by_cases hc : (10 : Int) ^ (18 : Int).toNat ≤ z
      · rw [if_pos (by simpa using hc)]
        refine NxIs.nx (P := PoolInv (60 * (j + 1))) ?_ (fun s h => .mk h)
        rw [show b1 pyRange1 (mlist [.ok (D.int 60)]) = .ok (rangeD 0 60) from rfl, bindC_ok]
        refine NxIs.nx (loopR_nx (fun i (p : D × D) => PoolInv (60 * j + i) p.1 ∧ ∃ r, p.2 = .int r) ⟨⟨l, rfl, by omega⟩, z, rfl⟩ ?_) ?_
        · rintro i ⟨p, q⟩ hi ⟨⟨l1, rfl, hl1⟩, r, rfl⟩
          refine NxIs.nx (P := fun p => PoolInv (60 * j + (i + 1)) p.1 ∧ ∃ r, p.2 = .int r) ?_ (fun s h => .mk h)
          rw [b2_ok, gt_ii, b1_ok, isB_bl, bindC_ok]
          by_cases hr : 0 < r
          · rw [if_pos (by simpa using hr)]
            rw [mlist_cons, mlist_nil, bind_ok, b1_ok, int_i, b2_ok, mod_ii (by decide), app_ints (by omega), bindC_ok, b2_ok, div_ii (by decide), bindC_ok]
            exact .mk ⟨⟨_, rfl, by rw [List.length_append, List.length_singleton]; omega⟩, _, rfl⟩
          · rw [if_neg (by simpa using hr)]
            exact .mk ⟨⟨l1, rfl, by omega⟩, r, rfl⟩
        · rintro ⟨p, q⟩ ⟨h, _⟩
          refine .mk ?_
          rw [Nat.mul_add]
          exact h
      · rw [if_neg (by simpa using hc)]
        refine NxIs.nx (P := PoolInv (60 * (j + 1))) ?_ (fun s h => .mk h)
        rw [show b1 pyRange1 (mlist [.ok (D.int 10)]) = .ok (rangeD 0 10) from rfl, bindC_ok]
        refine NxIs.nx (loopR_nx (fun i p => PoolInv (60 * j + i) p) ⟨l, rfl, by omega⟩ ?_) ?_
        · rintro i p hi ⟨l1, rfl, hl1⟩
          rw [b2_ok, mul_ii (.inr (by decide)), b2_ok, mul_ii (.inr (by decide)), b2_ok, add_ii, b2_ok, add_ii, mlist_cons, mlist_nil, bind_ok, b1_ok, int_i, b2_ok, mod_ii (by decide), bindC_ok]
          rw [b2_ok, mul_ii (.inr (by decide)), b2_ok, add_ii, mlist_cons, mlist_nil, bind_ok, b1_ok, int_i, b2_ok, mod_ii (by decide), b2_ok, div_ii (by decide), app_ints (by omega), bindC_ok]
          exact .mk ⟨_, rfl, by rw [List.length_append, List.length_singleton]; omega⟩
        · rintro p ⟨l1, rfl, h⟩
          exact .mk ⟨l1, rfl, by omega⟩
    · rintro s ⟨l, rfl, hl⟩
      rw [List.length_map] at hl
      exact .mk ⟨l, rfl, by omega⟩
  obtain ⟨d, e, l, rfl, hl⟩ := main
  refine ⟨l, ?_, hl⟩
  show (c_l_pool (.scr ns)).toM = _
  rw [e]
  rfl
theorem len_ints {l : List Int} : pyLen [intsD l] = .ok (.int l.length) := by
  show M.ok (D.int (l.map D.int).length) = _
  rw [List.length_map]
theorem atI_nat {α : Type} {xs : List α} {i : Nat} {x : α} (h : xs[i]? = some x) : atI xs (i : Int) = some x := by
  have hl : i < xs.length := (List.getElem?_eq_some_iff.mp h).1
  unfold atI ixN
  rw [if_pos (by omega), if_pos (by omega)]
  exact h
theorem ix_ints {l : List Int} {k : Nat} (h : k < l.length) : pyIx (intsD l) (.int k) = .ok (.int l[k]) := by
  show ofOpt (atI (l.map D.int) (k : Int)) = _
  rw [atI_nat (x := D.int l[k]) (by rw [List.getElem?_map, List.getElem?_eq_getElem h]; rfl)]
  rfl
def drawn (l : List Int) (k : Nat) (many : Int) : Int := match l[k]? with
  | some z => z % many
  | none => 0
theorem drawn_nonneg {l : List Int} {k : Nat} {many : Int} (h : 0 < many) : 0 ≤ drawn l k many := by
  unfold drawn
  split
  · exact Int.emod_nonneg _ (by omega)
  · exact Int.le_refl _
theorem drawn_lt {l : List Int} {k : Nat} {many : Int} (h : 0 < many) : drawn l k many < many := by
  unfold drawn
  split
  · exact Int.emod_lt_of_pos _ h
  · exact h
theorem draw_ok (l : List Int) (k : Nat) (many : Int) (h : 0 < many) : m_l_draw [intsD l, .int k, .int many] = .ok (.int (drawn l k many)) := by
  show (c_l_draw (intsD l) (.int k) (.int many)).toM = _
  unfold c_l_draw
  rw [mlist_cons, mlist_nil, bind_ok, b1_ok, len_ints, b2_ok, lt_ii, b1_ok, isB_bl, bindC_ok]
  by_cases hk : k < l.length
  · rw [if_pos (by simpa using hk), b2_ok, ix_ints hk, mlist_cons, mlist_nil, bind_ok, b1_ok, int_i, b2_ok, mod_ii h, bindC_ok, toM_ret]
    unfold drawn
    rw [List.getElem?_eq_getElem hk]
  · rw [if_neg (by simpa using hk), bindC_ok, toM_ret]
    unfold drawn
    rw [List.getElem?_eq_none (by omega)]
def ptD (p : Pt) : D := .tup [.int p.1, .int p.2]
def ptsD (l : List Pt) : D := .lst (l.map ptD)
def Bd (p : Pt) : Prop := 0 ≤ p.1 ∧ p.1 ≤ 100000 ∧ 0 ≤ p.2 ∧ p.2 ≤ 100000
theorem ix_pt0 {p : Pt} : pyIx (ptD p) (.int 0) = .ok (.int p.1) := rfl
theorem ix_pt1 {p : Pt} : pyIx (ptD p) (.int 1) = .ok (.int p.2) := rfl
theorem cross_ok {p q r : Pt} (hp : Bd p) (hq : Bd q) (hr : Bd r) : m_l_cross [ptD p, ptD q, ptD r] = .ok (.int (crs p q r)) := by
  obtain ⟨p1, p2, p3, p4⟩ := hp
  obtain ⟨q1, q2, q3, q4⟩ := hq
  show (c_l_cross (ptD p) (ptD q) (ptD r)).toM = _
  unfold c_l_cross
  simp only [b2_ok, ix_pt0, ix_pt1, sub_ii]
  rw [mul_ii (.inl (by omega)), mul_ii (.inl (by omega)), b2_ok, sub_ii, bindC_ok, toM_ret]
  rfl
theorem shaped_pt {x y : Int} : SeqAt.shaped (.tuple [.int x, .int y]) = true := by
  unfold SeqAt.shaped
  simp [PyData.canLay0, PyData.depth, PyData.canLayAll0, PyData.depthAll]
theorem toPy_pt {p : Pt} : toPy (D.tup [.int p.1, .int p.2]) = some (.tuple [.int p.1, .int p.2]) := by simp [toPy, toPys]
theorem eq_pt {p q : Pt} : pyEq (ptD p) (ptD q) = .ok (.bl (decide (p = q))) := by
  unfold pyEq eqD ptD
  rw [if_neg (fun z => by cases z), toPy_pt, toPy_pt]
  dsimp only
  rw [if_pos ⟨shaped_pt, shaped_pt⟩, b1_ok]
  have : PyData.eqv (.tuple [.int p.1, .int p.2]) (.tuple [.int q.1, .int q.2]) = decide (p = q) := by
    obtain ⟨a, b⟩ := p
    obtain ⟨c, d⟩ := q
    simp [PyData.eqv, PyData.eqvAll, Prod.ext_iff]
    rw [Bool.eq_iff_iff]
    simp
  rw [this]
theorem loop_any {f : D → Unit → Ctl Unit Unit} {r : D} : ∀ {ds : List D} (bad : Nat → Bool), (∀ (j : Nat) d, ds[j]? = some d → f d () = if bad j = true then .ret r else .nx ()) → forC f ds () = if (List.range ds.length).any bad = true then .ret r else .nx ()
  | [], bad, _ => rfl
  | d :: ds, bad, h => by
    show (f d ()).bind (forC f ds) = _
    rw [h 0 d rfl]
    have ih := loop_any (f := f) (r := r) (ds := ds) (fun j => bad (j + 1)) fun j d hj => h (j + 1) d (by simpa using hj)
    have e : (List.range (d :: ds).length).any bad = (bad 0 || (List.range ds.length).any fun j => bad (j + 1)) := by
      rw [List.length_cons, List.range_succ_eq_map, List.any_cons, List.any_map]
      rfl
    rw [e]
    cases hb : bad 0 with
    | true => simp
    | false =>
      simp only [Bool.false_eq_true, if_false, Bool.false_or, ctl_nx]
      exact ih
theorem loopR_any {f : D → Unit → Ctl Unit Unit} {r : D} {n : Nat} (bad : Nat → Bool) (h : ∀ j : Nat, j < n → f (.int j) () = if bad j = true then .ret r else .nx ()) : forC f (rangeD 0 n) () = if (List.range n).any bad = true then .ret r else .nx () := by
  have := loop_any (f := f) (r := r) (ds := rangeD 0 n) bad fun j d hj => by
    obtain ⟨hl, rfl⟩ := range_at hj
    rw [Int.zero_add]
    exact h j hl
  rw [range_len] at this
  exact this
theorem len_pts {l : List Pt} : pyLen [ptsD l] = .ok (.int l.length) := by
  show M.ok (D.int (l.map ptD).length) = _
  rw [List.length_map]
theorem ix_pts {l : List Pt} {k : Nat} (h : k < l.length) : pyIx (ptsD l) (.int k) = .ok (ptD l[k]) := by
  show ofOpt (atI (l.map ptD) (k : Int)) = _
  rw [atI_nat (x := ptD l[k]) (by rw [List.getElem?_map, List.getElem?_eq_getElem h]; rfl)]
  rfl
theorem gp_at {l : List Pt} {k : Nat} (h : k < l.length) : gp l k = l[k] := by unfold gp; rw [List.getD_eq_getElem?_getD, List.getElem?_eq_getElem h]; rfl
theorem ix_gp {l : List Pt} {k : Nat} (h : k < l.length) : pyIx (ptsD l) (.int k) = .ok (ptD (gp l k)) := by rw [ix_pts h, gp_at h]
theorem bd_gp {l : List Pt} (hl : ∀ p ∈ l, Bd p) {k : Nat} (h : k < l.length) : Bd (gp l k) := by rw [gp_at h]; exact hl _ (List.getElem_mem h)
theorem free_ok {l : List Pt} {s : Pt} (hl : ∀ p ∈ l, Bd p) (hs : Bd s) (hn : l.length < 1000) : m_l_free [ptsD l, ptD s] = .ok (.bl (freeB l s)) := by
  show (c_l_free (ptsD l) (ptD s)).toM = _
  unfold c_l_free
  rw [mlist_cons, mlist_nil, bind_ok, b1_ok, len_pts, mlist_cons, mlist_nil, bind_ok, b1_ok, range_i (by omega), bindC_ok, Int.toNat_natCast]
  rw [loopR_any (r := .bl false) (badK l s) fun k hk => ?_]
  · unfold freeB
    cases (List.range l.length).any (badK l s) <;> rfl
  · rw [b2_ok, ix_gp hk, b2_ok, eq_pt, b1_ok, isB_bl, bindC_ok]
    unfold badK
    by_cases he : gp l k = s
    · simp [he]
    · simp only [he, decide_false, Bool.false_eq_true, if_false, Bool.false_or]
      rw [mlist_cons, mlist_nil, bind_ok, b1_ok, range_i (by omega), bindC_ok, Int.toNat_natCast]
      rw [loopR_any (r := .bl false) (badJ l s k) fun j hj => ?_]
      · cases (List.range k).any (badJ l s k) <;> rfl
      · have hj' : j < l.length := Nat.lt_trans hj hk
        simp only [b2_ok, ix_gp hj', ix_gp hk]
        rw [mlist_cons, mlist_cons, mlist_cons, mlist_nil, bind_ok, bind_ok, bind_ok, b1_ok, cross_ok (bd_gp hl hj') (bd_gp hl hk) hs, b2_ok, eq_ii, b1_ok, isB_bl, bindC_ok, bindC_ok]
        rfl
theorem app_pts {l : List Pt} {p : Pt} (h : l.length < 1000000) : appM (ptsD l) (.ok (ptD p)) = .ok (ptsD (l ++ [p])) := by
  unfold ptsD
  show (if (l.map ptD).length < sizeLine then M.ok (D.lst (l.map ptD ++ [ptD p])) else .stk) = _
  rw [if_pos (by rw [List.length_map]; exact sz_big h), List.map_append]
  rfl
theorem places_ok (l : List Int) (at0 n : Nat) (hn : n ≤ 8) : ∃ ps : List Pt, m_l_places [intsD l, .int at0, .int n] = .ok (ptsD ps) ∧ ps.length = n ∧ GP ps ∧ ∀ p ∈ ps, Bd p := by
  have main : RetIs (c_l_places (intsD l) (.int at0) (.int n)) fun d => ∃ ps : List Pt, d = ptsD ps ∧ ps.length = n ∧ GP ps ∧ ∀ p ∈ ps, Bd p := by
    unfold c_l_places
    rw [show b1 mkLst (mlist []) = .ok (.lst []) from rfl, bindC_ok, mlist_cons, mlist_nil, bind_ok, b1_ok, range_i (by omega), bindC_ok, Int.toNat_natCast]
    refine NxIs.ret (loopR_nx (fun k d => ∃ ps : List Pt, d = ptsD ps ∧ ps.length = k ∧ GP ps ∧ ∀ p ∈ ps, Bd p) ⟨[], rfl, rfl, GP.nil, by simp⟩ ?_) ?_
    · rintro k d hk ⟨ps, rfl, hl, g, hb⟩
      have e1 : b2 pyAdd (.ok (.int at0)) (b2 pyMul (.ok (.int 2)) (.ok (.int k))) = .ok (.int ((at0 + 2 * k : Nat) : Int)) := by
        rw [b2_ok, mul_ii (.inl (by decide)), b2_ok, add_ii]
        congr 2
      rw [e1, b2_ok, add_ii]
      rw [show ((at0 + 2 * k : Nat) : Int) + 1 = ((at0 + 2 * k + 1 : Nat) : Int) by omega]
      simp only [mlist_cons, mlist_nil, bind_ok, b1_ok]
      rw [draw_ok l _ 1000 (by decide), draw_ok l _ 1000 (by decide), bindC_ok, bindC_ok]
      have hx0 := drawn_nonneg (l := l) (k := at0 + 2 * k) (many := 1000) (by decide)
      have hx1 := drawn_lt (l := l) (k := at0 + 2 * k) (many := 1000) (by decide)
      have hy0 := drawn_nonneg (l := l) (k := at0 + 2 * k + 1) (many := 1000) (by decide)
      have hy1 := drawn_lt (l := l) (k := at0 + 2 * k + 1) (many := 1000) (by decide)
      generalize drawn l (at0 + 2 * k) 1000 = x at *
      generalize drawn l (at0 + 2 * k + 1) 1000 = y at *
      rw [show pyRange1 [D.int 60] = .ok (rangeD 0 60) from rfl, bindC_ok]
      refine NxIs.nx (loopR_nx (fun j d => ∃ qs : List Pt, d = ptsD qs ∧ GP qs ∧ (∀ p ∈ qs, Bd p) ∧ ((qs = ps ∧ ∀ i, i < j → freeB ps (spotAt x y i) = false) ∨ qs.length = k + 1)) ⟨ps, rfl, g, hb, .inl ⟨rfl, by omega⟩⟩ ?_) ?_
      · rintro j d hj ⟨qs, rfl, gq, hq, hc⟩
        have hbd : Bd (spotAt x y j) := by
          have : (j : Int) * j ≤ 59 * 59 := Int.mul_le_mul (by omega) (by omega) (by omega) (by omega)
          have : 0 ≤ (j : Int) * j := Int.mul_nonneg (by omega) (by omega)
          unfold Bd spotAt
          dsimp only
          omega
        have e2 : b1 mkTup (mlist [b2 pyAdd (.ok (.int x)) (.ok (.int j)), b2 pyAdd (.ok (.int y)) (b2 pyMul (.ok (.int j)) (.ok (.int j)))]) = .ok (ptD (spotAt x y j)) := by
          rw [b2_ok, add_ii, b2_ok, mul_ii (.inl (by omega)), b2_ok, add_ii, tup2]
          rfl
        rw [e2]
        have hql : qs.length < 1000 := by
          rcases hc with ⟨rfl, _⟩ | h <;> omega
        rw [len_pts, b2_ok, eq_ii, b1_ok, isB_bl, andM_ok]
        refine NxIs.nx (P := fun d => ∃ qs : List Pt, d = ptsD qs ∧ GP qs ∧ (∀ p ∈ qs, Bd p) ∧ ((qs = ps ∧ ∀ i, i < j + 1 → freeB ps (spotAt x y i) = false) ∨ qs.length = k + 1)) ?_ (fun s h => .mk h)
        by_cases hlen : qs.length = k
        · rw [if_pos (decide_eq_true (by omega))]
          simp only [mlist_cons, mlist_nil, bind_ok, b1_ok]
          rw [free_ok hq hbd hql, b1_ok]
          have hqp : qs = ps := by
            rcases hc with ⟨h, _⟩ | h
            · exact h
            · omega
          subst hqp
          rw [show nofs (pyTruth (.bl (freeB qs (spotAt x y j)))) = .ok (freeB qs (spotAt x y j)) from rfl, bindC_ok]
          cases hf : freeB qs (spotAt x y j) with
          | true =>
            rw [if_pos rfl, app_pts (by omega), bindC_ok]
            refine .mk ⟨_, rfl, gq.snoc hf, ?_, .inr (by rw [List.length_append, List.length_singleton, hlen])⟩
            intro p hp
            rcases List.mem_append.mp hp with h | h
            · exact hq p h
            · rw [List.mem_singleton.mp h]; exact hbd
          | false =>
            rw [if_neg (by decide)]
            refine .mk ⟨_, rfl, gq, hq, .inl ⟨rfl, fun i hi => ?_⟩⟩
            rcases Nat.lt_or_ge i j with h | h
            · rcases hc with ⟨_, h'⟩ | h'
              · exact h' i h
              · omega
            · have : i = j := by omega
              subst this
              exact hf
        · rw [if_neg (by simp only [decide_eq_true_eq]; omega), show nofs (.ok false) = .ok false from rfl, bindC_ok, if_neg (by decide)]
          refine .mk ⟨_, rfl, gq, hq, .inr ?_⟩
          rcases hc with ⟨rfl, _⟩ | h'
          · omega
          · exact h'
      · rintro d ⟨qs, rfl, gq, hq, hc⟩
        refine .mk ⟨qs, rfl, ?_, gq, hq⟩
        rcases hc with ⟨rfl, h⟩ | h
        · obtain ⟨j, hj, hf⟩ := exists_free qs g (by omega) x y
          rw [h j hj] at hf
          cases hf
        · exact h
    · rintro d ⟨ps, rfl, h⟩
      exact .mk ⟨ps, rfl, h⟩
  obtain ⟨d, e, ps, rfl, h⟩ := main
  refine ⟨ps, ?_, h⟩
  show (c_l_places (intsD l) (.int at0) (.int n)).toM = _
  rw [e]
  rfl
end Mir
namespace Mir
open PySem PySem.Spec L2
def strD (l : List Nat) : D := .str ⟨l.toArray⟩
theorem str_len {l : List Nat} : Str.length ⟨l.toArray⟩ = l.length := by unfold Str.length; simp
theorem add_strD {l m : List Nat} (h : l.length + m.length < 1000000) : pyAdd (strD l) (strD m) = .ok (strD (l ++ m)) := by
  show (if Str.length ⟨l.toArray⟩ + Str.length ⟨m.toArray⟩ ≤ sizeLine then M.ok (D.str (⟨l.toArray⟩ ++ ⟨m.toArray⟩)) else .stk) = _
  rw [str_len, str_len, if_pos (Nat.le_of_lt (sz_big h))]
  unfold strD
  show M.ok (D.str ⟨l.toArray ++ m.toArray⟩) = _
  rw [List.append_toArray]
theorem strD_nil : D.str "" = strD [] := by unfold strD; congr 1
theorem strD_L : D.str "L" = strD [76] := by unfold strD; congr 1
theorem strD_R : D.str "R" = strD [82] := by unfold strD; congr 1
abbrev T3 := Nat × Nat × Nat
def thr (n : Nat) : List T3 := (List.range n).flatMap fun c => (List.range c).flatMap fun b => (List.range b).map fun a => (a, b, c)
def ltr (z : Int) : Nat := if z = 1 then 76 else if z = 0 then 63 else 82
def lw (n : Nat) (f : Nat → Nat → Nat → Int) : List Nat := (thr n).map fun t => ltr (f t.1 t.2.1 t.2.2)
def pos (a b c : Nat) : Nat := c * (c - 1) * (c - 2) / 6 + b * (b - 1) / 2 + a
theorem thr_len : ∀ n, n ≤ 8 → (thr n).length ≤ 56 := by decide +kernel
theorem lw_len {n : Nat} {f : Nat → Nat → Nat → Int} (h : n ≤ 8) : (lw n f).length ≤ 56 := by unfold lw; rw [List.length_map]; exact thr_len n h
theorem mem_thr {n : Nat} {t : T3} : t ∈ thr n ↔ t.1 < t.2.1 ∧ t.2.1 < t.2.2 ∧ t.2.2 < n := by
  obtain ⟨a, b, c⟩ := t
  unfold thr
  simp only [List.mem_flatMap, List.mem_range, List.mem_map, Prod.mk.injEq]
  constructor
  · rintro ⟨c', hc, b', hb, a', ha, rfl, rfl, rfl⟩
    exact ⟨ha, hb, hc⟩
  · rintro ⟨h1, h2, h3⟩
    exact ⟨c, h3, b, h2, a, h1, rfl, rfl, rfl⟩
theorem thr_pos_dec : ((List.range 9).all fun n => (List.range n).all fun c => (List.range c).all fun b => (List.range b).all fun a => decide ((thr n)[pos a b c]? = some (a, b, c))) = true := by decide +kernel
theorem thr_pos {n a b c : Nat} (hn : n ≤ 8) (hab : a < b) (hbc : b < c) (hc : c < n) : (thr n)[pos a b c]? = some (a, b, c) := by
  have h := thr_pos_dec
  simp only [List.all_eq_true, List.mem_range, decide_eq_true_eq] at h
  exact h n (by omega) c hc b hbc a hab
theorem lw_pos {n a b c : Nat} {f : Nat → Nat → Nat → Int} (hn : n ≤ 8) (hab : a < b) (hbc : b < c) (hc : c < n) : (lw n f)[pos a b c]? = some (ltr (f a b c)) := by
  unfold lw
  rw [List.getElem?_map, thr_pos hn hab hbc hc]
  rfl
def key3 (a b c : Nat) : List Key := [.inl (a : Int), .inl (b : Int), .inl (c : Int)]
theorem key3_inj {a b c a' b' c' : Nat} : key3 a b c = key3 a' b' c' ↔ a = a' ∧ b = b' ∧ c = c' := by
  unfold key3
  simp only [List.cons.injEq, Sum.inl.injEq, and_true]
  omega
section
variable (n : Nat) (f : Nat → Nat → Nat → Int)
def tE (a b c : Nat) : List (List Key × D) := if a ≠ b ∧ a ≠ c ∧ b ≠ c then [(key3 a b c, .int (f a b c))] else []
def tC (a b c : Nat) : List (List Key × D) := (List.range c).flatMap (tE f a b)
def tB (a b : Nat) : List (List Key × D) := (List.range b).flatMap fun b => tC f a b n
def tA (a : Nat) : List (List Key × D) := (List.range a).flatMap fun a => tB n f a n
def turnsK : List (List Key × D) := tA n f n
end
section
variable {n : Nat} {f : Nat → Nat → Nat → Int}
theorem mem_tE {a b c : Nat} {kv : List Key × D} : kv ∈ tE f a b c ↔ a ≠ b ∧ a ≠ c ∧ b ≠ c ∧ kv = (key3 a b c, .int (f a b c)) := by
  unfold tE
  split
  · rename_i h; simp [h]
  · rename_i h
    simp only [List.not_mem_nil, false_iff]
    exact fun q => h ⟨q.1, q.2.1, q.2.2.1⟩
theorem mem_tC {a b c : Nat} {kv : List Key × D} : kv ∈ tC f a b c ↔ ∃ c', c' < c ∧ a ≠ b ∧ a ≠ c' ∧ b ≠ c' ∧ kv = (key3 a b c', .int (f a b c')) := by
  unfold tC
  simp only [List.mem_flatMap, List.mem_range, mem_tE]
theorem mem_tB {a b : Nat} {kv : List Key × D} : kv ∈ tB n f a b ↔ ∃ b' c', b' < b ∧ c' < n ∧ a ≠ b' ∧ a ≠ c' ∧ b' ≠ c' ∧ kv = (key3 a b' c', .int (f a b' c')) := by
  unfold tB
  simp only [List.mem_flatMap, List.mem_range, mem_tC]
  constructor
  · rintro ⟨b', h, c', h'⟩; exact ⟨b', c', h, h'⟩
  · rintro ⟨b', c', h, h'⟩; exact ⟨b', h, c', h'⟩
theorem mem_tA {a : Nat} {kv : List Key × D} : kv ∈ tA n f a ↔ ∃ a' b' c', a' < a ∧ b' < n ∧ c' < n ∧ a' ≠ b' ∧ a' ≠ c' ∧ b' ≠ c' ∧ kv = (key3 a' b' c', .int (f a' b' c')) := by
  unfold tA
  simp only [List.mem_flatMap, List.mem_range, mem_tB]
  constructor
  · rintro ⟨a', h, b', c', h'⟩; exact ⟨a', b', c', h, h'⟩
  · rintro ⟨a', b', c', h, h'⟩; exact ⟨a', h, b', c', h'⟩
theorem len_flat {α β : Type} {g : α → List β} {k : Nat} : ∀ {l : List α}, (∀ x ∈ l, (g x).length ≤ k) → (l.flatMap g).length ≤ l.length * k
  | [], _ => by simp
  | x :: l, h => by
    have := len_flat (g := g) (l := l) fun y hy => h y (by simp [hy])
    have := h x (by simp)
    rw [List.flatMap_cons, List.length_append, List.length_cons, Nat.succ_mul]
    omega
theorem len_tC {a b c : Nat} (hc : c ≤ 8) : (tC f a b c).length ≤ 8 := by
  have := len_flat (g := tE f a b) (k := 1) (l := List.range c) fun x _ => by unfold tE; split <;> simp
  unfold tC
  rw [List.length_range] at this
  omega
theorem len_tB {a b : Nat} (hn : n ≤ 8) (hb : b ≤ 8) : (tB n f a b).length ≤ 64 := by
  have := len_flat (g := fun b => tC f a b n) (k := 8) (l := List.range b) fun x _ => len_tC hn
  unfold tB
  rw [List.length_range] at this
  omega
theorem len_tA {a : Nat} (hn : n ≤ 8) (ha : a ≤ 8) : (tA n f a).length ≤ 512 := by
  have := len_flat (g := fun a => tB n f a n) (k := 64) (l := List.range a) fun x _ => len_tB hn hn
  unfold tA
  rw [List.length_range] at this
  omega
end
theorem put_new {κ : Type} [DecidableEq κ] {kvs : List (κ × D)} {k : κ} {v : D} (h : ∀ kv ∈ kvs, kv.1 ≠ k) : putD kvs k v = kvs ++ [(k, v)] := by
  unfold putD
  rw [if_neg]
  rw [List.any_eq_true]
  rintro ⟨kv, hm, hk⟩
  exact h kv hm (of_decide_eq_true hk)
theorem valD_of {κ : Type} [DecidableEq κ] {k : κ} {v : D} : ∀ {kvs : List (κ × D)}, (k, v) ∈ kvs → (∀ kv ∈ kvs, kv.1 = k → kv.2 = v) → valD kvs k = some v
  | [], h, _ => by simp at h
  | kv :: kvs, h, u => by
    unfold valD
    rw [List.find?_cons]
    by_cases hk : kv.1 = k
    · simp only [hk, decide_true]
      rw [← u kv (by simp) hk]
      rfl
    · simp only [hk, decide_false]
      refine valD_of ?_ fun x hx => u x (by simp [hx])
      rcases List.mem_cons.mp h with h | h
      · exact absurd (by rw [← h]) hk
      · exact h
theorem tup_keys {a b c : Nat} : keysOf [D.int a, D.int b, D.int c] = some (key3 a b c) := rfl
theorem ix_turns {n a b c : Nat} {f : Nat → Nat → Nat → Int} (ha : a < n) (hb : b < n) (hc : c < n) (hab : a ≠ b) (hac : a ≠ c) (hbc : b ≠ c) : pyIx (.dct (turnsK n f)) (.tup [.int a, .int b, .int c]) = .ok (.int (f a b c)) := by
  show (ofOpt (keysOf [D.int a, D.int b, D.int c])).bind (fun k => ofOpt (valD (turnsK n f) k)) = _
  rw [tup_keys]
  show ofOpt (valD (turnsK n f) (key3 a b c)) = _
  have hm : (key3 a b c, D.int (f a b c)) ∈ turnsK n f := mem_tA.mpr ⟨a, b, c, ha, hb, hc, hab, hac, hbc, rfl⟩
  rw [valD_of hm]
  · rfl
  · intro kv hm hk
    obtain ⟨a', b', c', _, _, _, _, _, _, rfl⟩ := mem_tA.mp hm
    obtain ⟨rfl, rfl, rfl⟩ := key3_inj.mp hk
    rfl
theorem set_turn {kvs : List (List Key × D)} {a b c : Nat} {z : Int} (hl : kvs.length < 1000000) (h : ∀ kv ∈ kvs, kv.1 ≠ key3 a b c) : setM (.dct kvs) (.ok (.int z)) (mkTup [.int a, .int b, .int c]) = .ok (.dct (kvs ++ [(key3 a b c, .int z)])) := by
  rw [tup_ok (by simp)]
  show (ofOpt (keysOf [D.int a, D.int b, D.int c])).bind (fun k => if kvs.length < sizeLine then M.ok (D.dct (putD kvs k (.int z))) else .stk) = _
  rw [tup_keys]
  show (if kvs.length < sizeLine then M.ok (D.dct (putD kvs (key3 a b c) (.int z))) else .stk) = _
  rw [if_pos (sz_big hl), put_new h]
theorem flat_succ {α : Type} (g : Nat → List α) (k : Nat) : (List.range (k + 1)).flatMap g = (List.range k).flatMap g ++ g k := by rw [List.range_succ, List.flatMap_append]; simp
theorem turns_ok {ps : List Pt} (hb : ∀ p ∈ ps, Bd p) (hn : ps.length ≤ 8) : m_l_turns [ptsD ps] = .ok (.dct (turnsK ps.length (ptT ps))) := by
  show (c_l_turns (ptsD ps)).toM = _
  unfold c_l_turns
  have hr : b1 pyRange1 (mlist [b1 pyLen (mlist [.ok (ptsD ps)])]) = .ok (rangeD 0 ps.length) := by
    rw [mlist_cons, mlist_nil, bind_ok, b1_ok, len_pts, mlist_cons, mlist_nil, bind_ok, b1_ok, range_i (by omega), Int.toNat_natCast]
  rw [bindC_ok, hr, bindC_ok]
  generalize hN : ps.length = n at *
  have h0 : D.dct [] = (fun a => D.dct (tA n (ptT ps) a)) 0 := rfl
  rw [h0, loopR_st (fun a => D.dct (tA n (ptT ps) a)) fun a ha => ?_]
  · rfl
  · rw [bindC_ok]
    have h1 : D.dct (tA n (ptT ps) a) = (fun b => D.dct (tA n (ptT ps) a ++ tB n (ptT ps) a b)) 0 := by
      show _ = D.dct (tA n (ptT ps) a ++ []); rw [List.append_nil]
    rw [h1, loopR_st (fun b => D.dct (tA n (ptT ps) a ++ tB n (ptT ps) a b)) fun b hb' => ?_]
    · rw [ctl_nx]
      unfold tA
      rw [flat_succ]
    · rw [bindC_ok]
      have h2 : D.dct (tA n (ptT ps) a ++ tB n (ptT ps) a b) = (fun c => D.dct (tA n (ptT ps) a ++ tB n (ptT ps) a b ++ tC (ptT ps) a b c)) 0 := by
        show _ = D.dct (tA n (ptT ps) a ++ tB n (ptT ps) a b ++ []); rw [List.append_nil]
      rw [h2, loopR_st (fun c => D.dct (tA n (ptT ps) a ++ tB n (ptT ps) a b ++ tC (ptT ps) a b c)) fun c hc => ?_]
      · rw [ctl_nx]
        unfold tB
        rw [flat_succ, List.append_assoc]
      · simp only [b2_ok, ne_ii, b1_ok, isB_bl]
        have e : tC (ptT ps) a b (c + 1) = tC (ptT ps) a b c ++ tE (ptT ps) a b c := flat_succ _ _
        rw [e]
        unfold tE
        by_cases hab : a = b
        · have : ((a : Int) = b) := by omega
          simp [this, hab]
        by_cases hac : a = c
        · have h1 : ((a : Int) = c) := by omega
          have h2 : ¬((a : Int) = b) := by omega
          simp [h1, h2, hac]
        by_cases hbc : b = c
        · have h1 : ((b : Int) = c) := by omega
          have h2 : ¬((a : Int) = b) := by omega
          have h3 : ¬((a : Int) = c) := by omega
          simp [h1, h2, h3, hbc]
        have h1 : ¬((a : Int) = b) := by omega
        have h2 : ¬((a : Int) = c) := by omega
        have h3 : ¬((b : Int) = c) := by omega
        rw [if_pos ⟨hab, hac, hbc⟩]
        simp only [h1, h2, h3, decide_false, Bool.not_false, andM_ok, if_true, bindC_ok]
        rw [ix_gp (by omega), ix_gp (by omega), ix_gp (by omega), mlist_cons, mlist_cons, mlist_cons, mlist_nil, bind_ok, bind_ok, bind_ok, b1_ok, cross_ok (bd_gp hb (by omega)) (bd_gp hb (by omega)) (bd_gp hb (by omega)), bindC_ok]
        simp only [gt_ii, lt_ii, mlist_cons, mlist_nil, bind_ok, b1_ok, int_b, b2_ok, sub_ii]
        rw [set_turn]
        · rw [bindC_ok, ctl_nx, List.append_assoc, List.append_assoc, List.append_assoc]
          unfold ptT sgn
          simp only [decide_eq_true_eq]
        · rw [List.length_append, List.length_append]
          have := len_tA (f := ptT ps) (n := n) (a := a) (by omega) (by omega)
          have := len_tB (f := ptT ps) (n := n) (a := a) (b := b) (by omega) (by omega)
          have := len_tC (f := ptT ps) (a := a) (b := b) (c := c) (by omega)
          omega
        · intro kv hm hk
          rcases List.mem_append.mp hm with hm | hm
          · rcases List.mem_append.mp hm with hm | hm
            · obtain ⟨a', b', c', h, _, _, _, _, _, rfl⟩ := mem_tA.mp hm
              have := key3_inj.mp hk
              omega
            · obtain ⟨b', c', h, _, _, _, _, rfl⟩ := mem_tB.mp hm
              have := key3_inj.mp hk
              omega
          · obtain ⟨c', h, _, _, _, rfl⟩ := mem_tC.mp hm
            have := key3_inj.mp hk
            omega
end Mir
namespace Mir
open PySem PySem.Spec L2
theorem eq_strD {l m : List Nat} : pyEq (strD l) (strD m) = .ok (.bl (decide (l = m))) := by
  show M.ok (D.bl (decide ((⟨l.toArray⟩ : Str) = ⟨m.toArray⟩))) = _
  congr 2
  simp
theorem ne_strD {l m : List Nat} : pyNe (strD l) (strD m) = .ok (.bl (!decide (l = m))) := by
  show M.ok (D.bl (!decide ((⟨l.toArray⟩ : Str) = ⟨m.toArray⟩))) = _
  congr 3
  simp
theorem strD_Q : D.str "?" = strD [63] := by unfold strD; congr 1
theorem len_strD {l : List Nat} (h : l.length < 1000000) : pyLen [strD l] = .ok (.int l.length) := by
  show (if Str.length ⟨l.toArray⟩ ≤ sizeLine then M.ok (D.int (Str.length ⟨l.toArray⟩)) else .stk) = _
  rw [str_len, if_pos (Nat.le_of_lt (sz_big h))]
theorem ix_strD {l : List Nat} {k x : Nat} (h : l.length < 1000000) (hx : l[k]? = some x) : pyIx (strD l) (.int k) = .ok (strD [x]) := by
  show (if Str.length ⟨l.toArray⟩ ≤ sizeLine then (ofOpt (atI (Str.mk l.toArray).cps.toList k)).bind (fun c => M.ok (D.str ⟨#[c]⟩)) else .stk) = _
  rw [str_len, if_pos (Nat.le_of_lt (sz_big h))]
  rw [show (Str.mk l.toArray).cps.toList = l from List.toList_toArray, atI_nat hx]
  rfl
theorem strsOf_map (l : List (List Nat)) : strsOf (l.map strD) = some (l.map fun x => (⟨x.toArray⟩ : Str)) := by
  induction l with
  | nil => rfl
  | cons a l ih => show (strsOf (l.map strD)).map _ = _; rw [ih]; rfl
theorem join_flat : ∀ l : List (List Nat), Str.join ⟨([] : List Nat).toArray⟩ (l.map fun x => (⟨x.toArray⟩ : Str)) = ⟨l.flatten.toArray⟩
  | [] => rfl
  | [a] => by show (⟨a.toArray⟩ : Str) = _; simp
  | a :: b :: l => by
    show (⟨a.toArray⟩ ++ ⟨([] : List Nat).toArray⟩ ++ Str.join ⟨([] : List Nat).toArray⟩ ((b :: l).map fun x => (⟨x.toArray⟩ : Str)) : Str) = _
    rw [join_flat (b :: l)]
    show (⟨a.toArray ++ #[] ++ (b :: l).flatten.toArray⟩ : Str) = _
    simp
theorem join_strD {l : List (List Nat)} (h : (l.map List.length).sum < 1000000) : pyJoin (.str "") (.lst (l.map strD)) = .ok (strD l.flatten) := by
  rw [strD_nil]
  show (ofOpt (strsOf (l.map strD))).bind (fun ys => if (ys.map (·.length)).sum + ys.length * Str.length ⟨([] : List Nat).toArray⟩ ≤ 16777216 then M.ok (D.str (Txt.join ⟨([] : List Nat).toArray⟩ ys)) else .stk) = _
  rw [strsOf_map]
  show (if ((l.map fun x => (⟨x.toArray⟩ : Str)).map (·.length)).sum + (l.map fun x => (⟨x.toArray⟩ : Str)).length * Str.length ⟨([] : List Nat).toArray⟩ ≤ 16777216 then M.ok (D.str (Txt.join ⟨([] : List Nat).toArray⟩ (l.map fun x => (⟨x.toArray⟩ : Str)))) else .stk) = _
  have e1 : ((l.map fun x => (⟨x.toArray⟩ : Str)).map (·.length)).sum = (l.map List.length).sum := by
    rw [List.map_map]
    exact congrArg List.sum (List.map_congr_left fun x _ => str_len)
  rw [e1, str_len, if_pos (by simp only [List.length_nil, Nat.mul_zero]; omega)]
  unfold Txt.join
  rw [StrLaws.glued_eq_join, join_flat]
  rfl
theorem join_signs {l : List Nat} (h : l.length < 1000000) : pyJoin (.str "") (.lst (l.map fun x => strD [x])) = .ok (strD l) := by
  have e : (l.map fun x => strD [x]) = (l.map fun x => [x]).map strD := by rw [List.map_map]; rfl
  have e2 : ∀ l : List Nat, (l.map fun x => [x]).flatten = l := by
    intro l
    induction l with
    | nil => rfl
    | cons a l ih => rw [List.map_cons, List.flatten_cons, ih]; rfl
  have e3 : ∀ l : List Nat, ((l.map fun x => [x]).map List.length).sum = l.length := by
    intro l
    induction l with
    | nil => rfl
    | cons a l ih => rw [List.map_cons, List.map_cons, List.sum_cons, ih, List.length_cons, Nat.add_comm]; rfl
  rw [e, join_strD (by rw [e3]; exact h), e2]
theorem letters_ok {n : Nat} {f : Nat → Nat → Nat → Int} (hn : n ≤ 8) (hf : ∀ a b c, a < b → b < c → c < n → f a b c ≠ 0) : m_l_letters [.dct (turnsK n f), .int n] = .ok (strD (lw n f)) := by
  show (c_l_letters (.dct (turnsK n f)) (.int n)).toM = _
  unfold c_l_letters
  rw [bindC_ok, mlist_cons, mlist_nil, bind_ok, b1_ok, range_i (by omega), bindC_ok, Int.toNat_natCast]
  let A (b c : Nat) (a : Nat) : List Nat := (List.range a).map fun a => ltr (f a b c)
  let B (c : Nat) (b : Nat) : List Nat := (List.range b).flatMap fun b => A b c b
  let C (c : Nat) : List Nat := (List.range c).flatMap fun c => B c c
  have hA : ∀ b c a, (A b c a).length = a := fun b c a => by show ((List.range a).map _).length = a; simp
  have hB : ∀ b c, b ≤ 8 → (B c b).length ≤ 64 := fun b c hb => by
    have := len_flat (g := fun b => A b c b) (k := 8) (l := List.range b) fun x hx => by rw [hA]; have := List.mem_range.mp hx; omega
    rw [List.length_range] at this
    show ((List.range b).flatMap fun b => A b c b).length ≤ 64
    omega
  have hC : ∀ c, c ≤ 8 → (C c).length ≤ 512 := fun c hc => by
    have := len_flat (g := fun c => B c c) (k := 64) (l := List.range c) fun x hx => hB _ _ (by have := List.mem_range.mp hx; omega)
    rw [List.length_range] at this
    show ((List.range c).flatMap fun c => B c c).length ≤ 512
    omega
  have hw : C n = lw n f := by
    show (List.range n).flatMap _ = _
    unfold lw thr
    rw [List.map_flatMap]
    congr 1
    funext c
    rw [List.map_flatMap]
    show (List.range c).flatMap _ = _
    congr 1
    funext b
    rw [List.map_map]
    rfl
  rw [strD_nil, show strD [] = (fun c => strD (C c)) 0 from rfl, loopR_st (fun c => strD (C c)) fun c hc => ?_]
  · rw [ctl_nx, bindC_ok, toM_ret, hw]
  · rw [mlist_cons, mlist_nil, bind_ok, b1_ok, range_i (by omega), bindC_ok, Int.toNat_natCast]
    have h1 : strD (C c) = (fun b => strD (C c ++ B c b)) 0 := by show _ = strD (C c ++ []); rw [List.append_nil]
    rw [h1, loopR_st (fun b => strD (C c ++ B c b)) fun b hb => ?_]
    · rw [ctl_nx]
      show Ctl.nx (strD (C c ++ B c c)) = Ctl.nx (strD ((List.range (c + 1)).flatMap _))
      rw [flat_succ]
    · rw [mlist_cons, mlist_nil, bind_ok, b1_ok, range_i (by omega), bindC_ok, Int.toNat_natCast]
      have h2 : strD (C c ++ B c b) = (fun a => strD (C c ++ B c b ++ A b c a)) 0 := by show _ = strD (C c ++ B c b ++ []); rw [List.append_nil]
      rw [h2, loopR_st (fun a => strD (C c ++ B c b ++ A b c a)) fun a ha => ?_]
      · rw [ctl_nx]
        show Ctl.nx (strD (C c ++ B c b ++ A b c b)) = Ctl.nx (strD (C c ++ (List.range (b + 1)).flatMap _))
        rw [flat_succ, List.append_assoc]
      · rw [tup3, b2_ok, ix_turns (by omega) (by omega) (by omega) (by omega) (by omega) (by omega), b2_ok, eq_ii]
        simp only [mlist_cons, mlist_nil, bind_ok, b1_ok, int_b]
        have e : b2 pyIx (mkLst [.str "R", .str "L"]) (.ok (.int (if decide (f a b c = 1) = true then 1 else 0))) = .ok (strD [ltr (f a b c)]) := by
          rw [strD_L, strD_R]
          unfold ltr
          have := hf a b c ha hb hc
          by_cases h : f a b c = 1
          · simp only [h, decide_true, if_true]; rfl
          · simp only [h, this, decide_false, if_false, Bool.false_eq_true]; rfl
        rw [e, b2_ok, add_strD, bindC_ok]
        · show Ctl.nx (strD (C c ++ B c b ++ A b c a ++ [ltr (f a b c)])) = Ctl.nx (strD (C c ++ B c b ++ (List.range (a + 1)).map fun a => ltr (f a b c)))
          rw [List.range_succ, List.map_append, List.append_assoc]
          rfl
        · rw [List.length_append, List.length_append, hA]
          have := hB b c (by omega)
          have := hC c (by omega)
          simp only [List.length_singleton]
          omega
theorem position_ok {a b c : Nat} (hb : 1 ≤ b) (hc : 2 ≤ c) (h : b < 1000000 ∧ c < 1000000) : m_position [.int a, .int b, .int c] = .ok (.int (pos a b c)) := by
  show (c_position (.int a) (.int b) (.int c)).toM = _
  unfold c_position
  simp only [b2_ok, sub_ii]
  rw [mul_ii (.inl (by omega)), b2_ok, mul_ii (.inr (by omega)), b2_ok, div_ii (by decide), mul_ii (.inl (by omega)), b2_ok, div_ii (by decide), b2_ok, add_ii, b2_ok, add_ii, bindC_ok, toM_ret]
  unfold pos
  congr 2
  have e1 : ((c : Int) - 1) = ((c - 1 : Nat) : Int) := by omega
  have e2 : ((c : Int) - 2) = ((c - 2 : Nat) : Int) := by omega
  have e3 : ((b : Int) - 1) = ((b - 1 : Nat) : Int) := by omega
  rw [e1, e2, e3]
  simp only [Int.natCast_add, Int.natCast_ediv, Int.natCast_mul]
  rfl
def RdAt (w : List Nat) (f : Nat → Nat → Nat → Int) (a b c : Nat) : Prop := w[pos a b c]? = some (ltr (f a b c)) ∧ (f a b c = 1 ∨ f a b c = 0 ∨ f a b c = -1)
theorem lw_rd {n a b c : Nat} {f : Nat → Nat → Nat → Int} (hn : n ≤ 8) (h : f a b c = 1 ∨ f a b c = 0 ∨ f a b c = -1) (hab : a < b) (hbc : b < c) (hc : c < n) : RdAt (lw n f) f a b c := ⟨lw_pos hn hab hbc hc, h⟩
theorem turn_end {w : List Nat} {f : Nat → Nat → Nat → Int} {x y z : Nat} {s : Int} (hw : w.length < 1000000) (hxy : x < y) (hyz : y < z) (hz : z < 1000000) (r : RdAt w f x y z) :
    ((M.bindC (b2 pyIx (.ok (strD w)) (m_position [.int x, .int y, .int z])) () fun l => M.bindC (b1 isB (pyEq l (.str "?"))) () fun c => if c = true then Ctl.ret (.int 0) else M.bindC (ifM (b1 isB (pyEq l (.str "L"))) (.ok (.int s)) (.ok (.int (-s)))) () Ctl.ret) : Ctl Unit Unit).toM = .ok (.int (s * f x y z)) := by
  rw [position_ok (by omega) (by omega) (by omega), b2_ok, ix_strD hw r.1, bindC_ok, strD_Q, strD_L, eq_strD, b1_ok, isB_bl, bindC_ok, eq_strD, b1_ok, isB_bl, ifM_ok]
  rcases r.2 with h | h | h <;> rw [h] <;> unfold ltr <;> simp
theorem turn_ok {w : List Nat} {f : Nat → Nat → Nat → Int} {a b c : Nat} (hw : w.length < 1000000) (hm : a < 1000000 ∧ b < 1000000 ∧ c < 1000000) (hab : a ≠ b) (hac : a ≠ c) (hbc : b ≠ c)
    (r : ∀ x y z, x < y → y < z → (x = a ∨ x = b ∨ x = c) → (y = a ∨ y = b ∨ y = c) → (z = a ∨ z = b ∨ z = c) → RdAt w f x y z) : m_turn_of [strD w, .int a, .int b, .int c] = .ok (.int (tn f a b c)) := by
  show (c_turn_of (strD w) (.int a) (.int b) (.int c)).toM = _
  unfold c_turn_of
  obtain ⟨h1, h2, h3⟩ := hm
  unfold tn
  rcases Nat.lt_or_gt_of_ne hab with hab | hab <;> rcases Nat.lt_or_gt_of_ne hbc with hbc | hbc <;> rcases Nat.lt_or_gt_of_ne hac with hac | hac <;> try omega
  · simp (disch := omega) only [bindC_ok, b2_ok, gt_t, gt_f, b1_ok, isB_bl, if_true, if_false, Bool.false_eq_true, unL3_at, mlist_cons, mlist_nil, bind_ok, ctl_nx, neg_i, if_pos, if_neg]
    refine (turn_end hw hab hbc h3 (r _ _ _ hab hbc (.inl rfl) (.inr (.inl rfl)) (.inr (.inr rfl)))).trans ?_
    congr 2
    omega
  · simp (disch := omega) only [bindC_ok, b2_ok, gt_t, gt_f, b1_ok, isB_bl, if_true, if_false, Bool.false_eq_true, unL3_at, mlist_cons, mlist_nil, bind_ok, ctl_nx, neg_i, if_pos, if_neg]
    refine (turn_end hw hac hbc h2 (r _ _ _ hac hbc (.inl rfl) (.inr (.inr rfl)) (.inr (.inl rfl)))).trans ?_
    congr 2
    omega
  · simp (disch := omega) only [bindC_ok, b2_ok, gt_t, gt_f, b1_ok, isB_bl, if_true, if_false, Bool.false_eq_true, unL3_at, mlist_cons, mlist_nil, bind_ok, ctl_nx, neg_i, if_pos, if_neg]
    refine (turn_end hw hac hab h2 (r _ _ _ hac hab (.inr (.inr rfl)) (.inl rfl) (.inr (.inl rfl)))).trans ?_
    congr 2
    omega
  · simp (disch := omega) only [bindC_ok, b2_ok, gt_t, gt_f, b1_ok, isB_bl, if_true, if_false, Bool.false_eq_true, unL3_at, mlist_cons, mlist_nil, bind_ok, ctl_nx, neg_i, if_pos, if_neg]
    refine (turn_end hw hab hac h3 (r _ _ _ hab hac (.inr (.inl rfl)) (.inl rfl) (.inr (.inr rfl)))).trans ?_
    congr 2
    omega
  · simp (disch := omega) only [bindC_ok, b2_ok, gt_t, gt_f, b1_ok, isB_bl, if_true, if_false, Bool.false_eq_true, unL3_at, mlist_cons, mlist_nil, bind_ok, ctl_nx, neg_i, if_pos, if_neg]
    refine (turn_end hw hbc hac h1 (r _ _ _ hbc hac (.inr (.inl rfl)) (.inr (.inr rfl)) (.inl rfl))).trans ?_
    congr 2
    omega
  · simp (disch := omega) only [bindC_ok, b2_ok, gt_t, gt_f, b1_ok, isB_bl, if_true, if_false, Bool.false_eq_true, unL3_at, mlist_cons, mlist_nil, bind_ok, ctl_nx, neg_i, if_pos, if_neg]
    refine (turn_end hw hbc hab h1 (r _ _ _ hbc hab (.inr (.inr rfl)) (.inr (.inl rfl)) (.inl rfl))).trans ?_
    congr 2
    omega
theorem tn_cs {f : Nat → Nat → Nat → Int} {a b c : Nat} (hab : a ≠ b) (hac : a ≠ c) (hbc : b ≠ c)
    (r : ∀ x y z, x < y → y < z → (x = a ∨ x = b ∨ x = c) → (y = a ∨ y = b ∨ y = c) → (z = a ∨ z = b ∨ z = c) → (f x y z = 1 ∨ f x y z = 0 ∨ f x y z = -1)) : tn f a b c = 1 ∨ tn f a b c = 0 ∨ tn f a b c = -1 := by
  unfold tn
  rcases Nat.lt_or_gt_of_ne hab with h1 | h1 <;> rcases Nat.lt_or_gt_of_ne hbc with h2 | h2 <;> rcases Nat.lt_or_gt_of_ne hac with h3 | h3 <;> try omega
  · have := r a b c (by omega) (by omega) (by omega) (by omega) (by omega); split <;> (try split) <;> omega
  · have := r a c b (by omega) (by omega) (by omega) (by omega) (by omega); split <;> (try split) <;> omega
  · have := r c a b (by omega) (by omega) (by omega) (by omega) (by omega); split <;> (try split) <;> omega
  · have := r b a c (by omega) (by omega) (by omega) (by omega) (by omega); split <;> (try split) <;> omega
  · have := r b c a (by omega) (by omega) (by omega) (by omega) (by omega); split <;> (try split) <;> omega
  · have := r c b a (by omega) (by omega) (by omega) (by omega) (by omega); split <;> (try split) <;> omega
def Rd8 (w : List Nat) (f : Nat → Nat → Nat → Int) (ok : Nat → Prop) : Prop := ∀ x y z, x < y → y < z → ok x → ok y → ok z → RdAt w f x y z
theorem Rd8.turn {w : List Nat} {f : Nat → Nat → Nat → Int} {ok : Nat → Prop} (R : Rd8 w f ok) (hw : w.length < 1000000) (hm : ∀ x, ok x → x < 1000000) {a b c : Nat} (ha : ok a) (hb : ok b) (hc : ok c) (hab : a ≠ b) (hac : a ≠ c) (hbc : b ≠ c) :
    m_turn_of [strD w, .int a, .int b, .int c] = .ok (.int (tn f a b c)) ∧ (tn f a b c = 1 ∨ tn f a b c = 0 ∨ tn f a b c = -1) := by
  have r : ∀ x y z, x < y → y < z → (x = a ∨ x = b ∨ x = c) → (y = a ∨ y = b ∨ y = c) → (z = a ∨ z = b ∨ z = c) → RdAt w f x y z := fun x y z h1 h2 hx hy hz =>
    R x y z h1 h2 (by rcases hx with rfl | rfl | rfl <;> assumption) (by rcases hy with rfl | rfl | rfl <;> assumption) (by rcases hz with rfl | rfl | rfl <;> assumption)
  exact ⟨turn_ok hw ⟨hm _ ha, hm _ hb, hm _ hc⟩ hab hac hbc r, tn_cs hab hac hbc fun x y z h1 h2 hx hy hz => (r x y z h1 h2 hx hy hz).2⟩
def b5 (t : Nat → Nat → Nat → Int) (x a b c d : Nat) : Bool := decide (t x a b * t x c d = -t x a c * t x b d) && (decide (-t x a c * t x b d = t x a d * t x b c) && decide (t x a d * t x b c ≠ 0))
theorem sm3 {z : Int} (h : z = 1 ∨ z = 0 ∨ z = -1) : -(2 ^ 64) < z ∧ z < 2 ^ 64 := by
  rcases h with rfl | rfl | rfl <;> decide
theorem sm3n {z : Int} (h : z = 1 ∨ z = 0 ∨ z = -1) : -(2 ^ 64) < -z ∧ -z < 2 ^ 64 := by
  rcases h with rfl | rfl | rfl <;> decide
theorem breaks_ok {w : List Nat} {f : Nat → Nat → Nat → Int} {ok : Nat → Prop} (R : Rd8 w f ok) (hw : w.length < 1000000) (hm : ∀ x, ok x → x < 1000000) {x a b c d : Nat} (hx : ok x) (ha : ok a) (hb : ok b) (hc : ok c) (hd : ok d)
    (h1 : x ≠ a) (h2 : x ≠ b) (h3 : x ≠ c) (h4 : x ≠ d) (h5 : a ≠ b) (h6 : a ≠ c) (h7 : a ≠ d) (h8 : b ≠ c) (h9 : b ≠ d) (h10 : c ≠ d) : m_breaks_five [strD w, .int x, .int a, .int b, .int c, .int d] = .ok (.bl (b5 (tn f) x a b c d)) := by
  show (c_breaks_five (strD w) (.int x) (.int a) (.int b) (.int c) (.int d)).toM = _
  unfold c_breaks_five
  obtain ⟨e1, q1⟩ := R.turn hw hm hx ha hb h1 h2 h5
  obtain ⟨e2, q2⟩ := R.turn hw hm hx hc hd h3 h4 h10
  obtain ⟨e3, q3⟩ := R.turn hw hm hx ha hc h1 h3 h6
  obtain ⟨e4, q4⟩ := R.turn hw hm hx hb hd h2 h4 h9
  obtain ⟨e5, q5⟩ := R.turn hw hm hx ha hd h1 h4 h7
  obtain ⟨e6, q6⟩ := R.turn hw hm hx hb hc h2 h3 h8
  simp only [mlist_cons, mlist_nil, bind_ok, b1_ok, e1, e2, e3, e4, e5, e6, b2_ok, neg_i]
  rw [mul_ii (.inl (sm3 q1)), mul_ii (.inl (sm3n q3)), mul_ii (.inl (sm3 q5)), bindC_ok, bindC_ok, bindC_ok]
  unfold chM3 b5
  simp only [bind_ok, eq_ii, ne_ii, isB_bl]
  generalize tn f x a b * tn f x c d = u
  generalize -tn f x a c * tn f x b d = v
  generalize tn f x a d * tn f x b c = z
  by_cases k1 : u = v
  · subst k1
    by_cases k2 : u = z
    · subst k2
      by_cases k3 : u = 0 <;> simp [k3]
    · simp [k2]
  · simp [k1]
end Mir
namespace Mir
open PySem PySem.Spec L2
def chk3 (n a b c : Int) : Bool := (decide (0 ≤ a) && decide (a < n)) && ((decide (0 ≤ b) && decide (b < n)) && !decide (a = b)) && ((decide (0 ≤ c) && decide (c < n)) && !(decide (a = c) || decide (b = c)))
theorem chM_ii {a b c : Int} : chM pyLe pyLt (.ok (.int a)) (.ok (.int b)) (.ok (.int c)) = .ok (.bl (decide (a ≤ b) && decide (b < c))) := by
  unfold chM
  simp only [bind_ok, le_ii, isB_bl, lt_ii]
  by_cases h : a ≤ b <;> simp [h]
theorem mem_0 {x : Int} : memD false (.int x) (.tup []) = .ok (.bl false) := rfl
theorem mem_1 {x a : Int} : memD false (.int x) (.tup [.int a]) = .ok (.bl (decide (a = x))) := by
  show M.ok (D.bl ((a == x) || false)) = _
  rw [Bool.or_false]
  rfl
theorem mem_2 {x a b : Int} : memD false (.int x) (.tup [.int a, .int b]) = .ok (.bl (decide (a = x) || decide (b = x))) := by
  show M.ok (D.bl ((a == x) || ((b == x) || false))) = _
  rw [Bool.or_false]
  rfl
theorem posts_step {n x : Int} {m : M D} {b : Bool} (hm : m = .ok (.bl b)) : ((M.bindC (orM (notM (b1 isB (chM pyLe pyLt (.ok (.int 0)) (.ok (.int x)) (.ok (.int n))))) (b1 isB m)) () fun c => if c = true then (.exn ⟨1, []⟩ ()) else .nx ()) : Ctl Unit Unit) = if ((decide (0 ≤ x) && decide (x < n)) && !b) = true then .nx () else .exn ⟨1, []⟩ () := by
  rw [hm, chM_ii, b1_ok, isB_bl, notM_ok, orM_ok, b1_ok, isB_bl]
  cases decide (0 ≤ x) <;> cases decide (x < n) <;> cases b <;> rfl
theorem check_posts_ok (n a b c : Int) : m_check_posts [.int n, .tup [.int a, .int b, .int c]] = if chk3 n a b c = true then .ok .non else .exn ⟨1, []⟩ := by
  show (c_check_posts (.int n) (.tup [.int a, .int b, .int c])).toM = _
  unfold c_check_posts
  rw [show b1 pyEnum (mlist [.ok (D.tup [.int a, .int b, .int c])]) = .ok [.tup [.int 0, .int a], .tup [.int 1, .int b], .tup [.int 2, .int c]] from rfl, bindC_ok]
  unfold chk3
  let f : D → Unit → Ctl Unit Unit := fun v2_t (v1_j : Unit) => un2 .stk v2_t fun v3_k v4_post => M.bindC (orM (notM (b1 isB (chM pyLe pyLt (.ok (.int 0)) (.ok v4_post) (.ok (.int n))))) (b1 isB (b2 (memD false) (.ok v4_post) (slM (.ok (.tup [.int a, .int b, .int c])) (.ok none) (b1 someI (.ok v3_k)))))) () fun c => if c = true then (.exn ⟨1, []⟩ ()) else .nx ()
  show ((f (.tup [.int 0, .int a]) ()).bind (fun s => (f (.tup [.int 1, .int b]) s).bind (fun s => (f (.tup [.int 2, .int c]) s).bind fun s => Ctl.nx s)) |>.bind fun _ => Ctl.nx ()).toM = _
  have e0 : f (.tup [.int 0, .int a]) () = if ((decide (0 ≤ a) && decide (a < n)) && !false) = true then .nx () else .exn ⟨1, []⟩ () := posts_step mem_0
  have e1 : f (.tup [.int 1, .int b]) () = if ((decide (0 ≤ b) && decide (b < n)) && !decide (a = b)) = true then .nx () else .exn ⟨1, []⟩ () := posts_step mem_1
  have e2 : f (.tup [.int 2, .int c]) () = if ((decide (0 ≤ c) && decide (c < n)) && !(decide (a = c) || decide (b = c))) = true then .nx () else .exn ⟨1, []⟩ () := posts_step mem_2
  rw [e0]
  cases (decide (0 ≤ a) && decide (a < n)) with
  | false => rfl
  | true =>
    rw [if_pos (by rfl), ctl_nx, e1]
    cases ((decide (0 ≤ b) && decide (b < n)) && !decide (a = b)) with
    | false => rfl
    | true =>
      rw [if_pos rfl, ctl_nx, e2]
      cases ((decide (0 ≤ c) && decide (c < n)) && !(decide (a = c) || decide (b = c))) with
      | false => rfl
      | true => rfl
theorem chk3_iff {n a b c : Int} : chk3 n a b c = true ↔ (0 ≤ a ∧ a < n) ∧ (0 ≤ b ∧ b < n) ∧ (0 ≤ c ∧ c < n) ∧ a ≠ b ∧ a ≠ c ∧ b ≠ c := by
  unfold chk3
  simp only [Bool.and_eq_true, decide_eq_true_eq, Bool.not_eq_true', decide_eq_false_iff_not, Bool.or_eq_false_iff]
  constructor
  · rintro ⟨⟨h1, h2, h3⟩, h4, h5, h6⟩; exact ⟨h1, h2, h4, h3, h5, h6⟩
  · rintro ⟨h1, h2, h3, h4, h5, h6⟩; exact ⟨⟨h1, h2, h4⟩, h3, h5, h6⟩
def natsD (l : List Nat) : List D := l.map fun k : Nat => D.int k
def tupN (l : List Nat) : D := .tup (natsD l)
def t3D (t : T3) : D := tupN [t.1, t.2.1, t.2.2]
theorem threes_ok {n : Nat} (hn : n ≤ 8) : m_threes [.int n] = .ok (.lst ((thr n).map t3D)) := by
  show (c_threes (.int n)).toM = _
  unfold c_threes
  have hr : ∀ k : Nat, k ≤ 8 → b1 pyRange1 (mlist [.ok (.int k)]) = .ok (rangeD 0 k) := fun k hk => by rw [mlist_cons, mlist_nil, bind_ok, b1_ok, range_i (by omega), Int.toNat_natCast]
  rw [lcM_ok (hr n hn) (compR (fun c => (List.range c).flatMap fun b => (List.range b).flatMap fun a => [t3D (a, b, c)]) fun c hc => ?_), bindC_ok, toM_ret]
  · unfold thr
    simp only [List.map_flatMap, List.map_map]
    congr 2
    congr 1
    funext c
    congr 1
    funext b
    rw [List.map_eq_flatMap]
    rfl
  · have := len_flat (g := fun c => (List.range c).flatMap fun b => (List.range b).flatMap fun a => [t3D (a, b, c)]) (k := 64) (l := List.range n) fun c hc => by
      have hc := List.mem_range.mp hc
      have := len_flat (g := fun b => (List.range b).flatMap fun a => [t3D (a, b, c)]) (k := 8) (l := List.range c) fun b hb => by
        have hb := List.mem_range.mp hb
        have := len_flat (g := fun a => [t3D (a, b, c)]) (k := 1) (l := List.range b) fun a ha => by simp
        rw [List.length_range] at this
        omega
      rw [List.length_range] at this
      omega
    rw [List.length_range] at this
    omega
  · rw [inM_t (hr c (by omega)), compR (fun b => (List.range b).flatMap fun a => [t3D (a, b, c)]) fun b hb => ?_]
    rw [inM_t (hr b (by omega)), compR (fun a => [t3D (a, b, c)]) fun a ha => ?_]
    rw [tup3]
    exact elM_t rfl
def b4 (f : Nat → Nat → Nat → Int) (w a b c : Nat) : Bool := decide ([ltr (f w a b), ltr (f w a c), ltr (f w b c), ltr (f a b c)] = [76, 82, 76, 82]) || decide ([ltr (f w a b), ltr (f w a c), ltr (f w b c), ltr (f a b c)] = [82, 76, 82, 76])
def g4 (f : Nat → Nat → Nat → Int) (a b c w : Nat) : Option D := if b4 f w a b c = true then some (tupN [w, a, b, c]) else none
def g5 (f : Nat → Nat → Nat → Int) (v w a b c x : Nat) : Option D := match [v, w, a, b, c].filter (fun y => decide (y ≠ x)) with
  | [p, q, r, s] => if b5 (tn f) x p q r s = true then some (tupN [x, p, q, r, s]) else none
  | _ => none
def lbr (f : Nat → Nat → Nat → Int) (a b c : Nat) : Option D := ((List.range a).findSome? (g4 f a b c)).or ((List.range a).findSome? fun w => (List.range w).findSome? fun v => [v, w, a, b, c].findSome? (g5 f v w a b c))
def brch (f : Nat → Nat → Nat → Int) (n : Nat) : Option D := (thr n).findSome? fun t => lbr f t.1 t.2.1 t.2.2
def optD : Option D → D
  | some d => d
  | none => .non
theorem filt5 {v w a b c x : Nat} (h1 : v < w) (h2 : w < a) (h3 : a < b) (h4 : b < c) (hx : x ∈ [v, w, a, b, c]) : ∃ p q r s, [v, w, a, b, c].filter (fun y => decide (y ≠ x)) = [p, q, r, s] ∧ p < q ∧ q < r ∧ r < s ∧ x ≠ p ∧ x ≠ q ∧ x ≠ r ∧ x ≠ s ∧ v ≤ p ∧ s ≤ c := by
  have va := Nat.lt_trans h1 h2
  have wb := Nat.lt_trans h2 h3
  have ac := Nat.lt_trans h3 h4
  have vb := Nat.lt_trans va h3
  have wc := Nat.lt_trans wb h4
  have vc := Nat.lt_trans vb h4
  have no : ∀ {y z : Nat} {l : List Nat}, y ≠ z → (y :: l).filter (fun y => decide (y ≠ z)) = y :: l.filter (fun y => decide (y ≠ z)) := fun h => by rw [List.filter_cons, if_pos (decide_eq_true h)]
  have ye : ∀ {z : Nat} {l : List Nat}, (z :: l).filter (fun y => decide (y ≠ z)) = l.filter (fun y => decide (y ≠ z)) := fun {z l} => by rw [List.filter_cons, if_neg (by simp)]
  have ne : ∀ {y z : Nat}, y < z → y ≠ z := Nat.ne_of_lt
  have gt : ∀ {y z : Nat}, y < z → z ≠ y := Nat.ne_of_gt
  simp only [List.mem_cons, List.not_mem_nil, or_false] at hx
  rcases hx with rfl | rfl | rfl | rfl | rfl
  · exact ⟨w, a, b, c, by rw [ye, no (gt h1), no (gt va), no (gt vb), no (gt vc)]; rfl, h2, h3, h4, ne h1, ne va, ne vb, ne vc, Nat.le_of_lt h1, Nat.le_refl _⟩
  · exact ⟨v, a, b, c, by rw [no (ne h1), ye, no (gt h2), no (gt wb), no (gt wc)]; rfl, va, h3, h4, gt h1, ne h2, ne wb, ne wc, Nat.le_refl _, Nat.le_refl _⟩
  · exact ⟨v, w, b, c, by rw [no (ne va), no (ne h2), ye, no (gt h3), no (gt ac)]; rfl, h1, wb, h4, gt va, gt h2, ne h3, ne ac, Nat.le_refl _, Nat.le_refl _⟩
  · exact ⟨v, w, a, c, by rw [no (ne vb), no (ne wb), no (ne h3), ye, no (gt h4)]; rfl, h1, h2, ac, gt vb, gt wb, gt h3, ne h4, Nat.le_refl _, Nat.le_refl _⟩
  · exact ⟨v, w, a, b, by rw [no (ne vc), no (ne wc), no (ne ac), no (ne h4), ye]; rfl, h1, h2, h3, gt vc, gt wc, gt ac, gt h4, Nat.le_refl _, Nat.le_of_lt h4⟩
theorem mem_str2 {x p q : List Nat} : memD false (strD x) (.tup [strD p, strD q]) = .ok (.bl (decide (x = p) || decide (x = q))) := by
  show M.ok (D.bl (((⟨p.toArray⟩ : Str) == ⟨x.toArray⟩) || (((⟨q.toArray⟩ : Str) == ⟨x.toArray⟩) || false))) = _
  have e : ∀ p : List Nat, ((⟨p.toArray⟩ : Str) == ⟨x.toArray⟩) = decide (x = p) := fun p => by
    rw [Bool.eq_iff_iff, beq_iff_eq, decide_eq_true_eq, Str.mk.injEq]
    constructor
    · intro h; have := congrArg Array.toList h; simpa using this.symm
    · rintro rfl; rfl
  rw [e, e, Bool.or_false]
theorem strD_LRLR : D.str "LRLR" = strD [76, 82, 76, 82] := by unfold strD; congr 1
theorem strD_RLRL : D.str "RLRL" = strD [82, 76, 82, 76] := by unfold strD; congr 1
theorem ctl_out {X S T : Type} {s : S} {o : Option D} {k : S → Ctl X T} : (outF s o).bind k = match o with
    | some r => .ret r
    | none => k s := by cases o <;> rfl
theorem truth_b {b : Bool} : pyTruth (.bl b) = .ok b := rfl
theorem last_part {w : List Nat} {f : Nat → Nat → Nat → Int} {a b c : Nat} (R : Rd8 w f fun x => x ≤ a ∨ x = b ∨ x = c) (hw : w.length < 1000000) (hab : a < b) (hbc : b < c) (hc : c < 1000) : m_last_breach [strD w, .int a, .int b, .int c] = .ok (optD (lbr f a b c)) := by
  show (c_last_breach (strD w) (.int a) (.int b) (.int c)).toM = _
  unfold c_last_breach
  have hm : ∀ x, (x ≤ a ∨ x = b ∨ x = c) → x < 1000000 := fun x h => by omega
  have hr : ∀ k : Nat, k ≤ c → b1 pyRange1 (mlist [.ok (.int k)]) = .ok (rangeD 0 k) := fun k hk => by rw [mlist_cons, mlist_nil, bind_ok, b1_ok, range_i (by omega), Int.toNat_natCast]
  have hp : ∀ x y z : Nat, x < y → y < z → (x ≤ a ∨ x = b ∨ x = c) → (y ≤ a ∨ y = b ∨ y = c) → (z ≤ a ∨ z = b ∨ z = c) → b2 pyIx (.ok (strD w)) (b1 m_position (mlist [.ok (.int x), .ok (.int y), .ok (.int z)])) = .ok (strD [ltr (f x y z)]) := fun x y z h1 h2 k1 k2 k3 => by
    rw [mlist_cons, mlist_cons, mlist_cons, mlist_nil, bind_ok, bind_ok, bind_ok, b1_ok, position_ok (by omega) (by omega) (by omega), b2_ok, ix_strD hw (R x y z h1 h2 k1 k2 k3).1]
  rw [hr a (by omega), bindC_ok, bindC_ok, loopR_find (g4 f a b c) fun v hv => ?_, ctl_out]
  · unfold lbr
    cases (List.range a).findSome? (g4 f a b c) with
    | some r => rfl
    | none =>
      rw [Option.none_or]
      dsimp only
      rw [loopR_find (fun w => (List.range w).findSome? fun v => [v, w, a, b, c].findSome? (g5 f v w a b c)) fun u hu => ?_, ctl_out]
      · cases (List.range a).findSome? fun w => (List.range w).findSome? fun v => [v, w, a, b, c].findSome? (g5 f v w a b c) <;> rfl
      · rw [hr u (by omega), bindC_ok, loopR_find (fun v => [v, u, a, b, c].findSome? (g5 f v u a b c)) fun v hv => ?_, ctl_out]
        · cases (List.range u).findSome? fun v => [v, u, a, b, c].findSome? (g5 f v u a b c) <;> rfl
        · rw [tup5, b1_ok, show pyItems (.tup [D.int v, .int u, .int a, .int b, .int c]) = .ok ([v, u, a, b, c].map fun k : Nat => D.int k) from rfl, bindC_ok, loopM_find (fun k : Nat => D.int k) (g5 f v u a b c) fun x hx => ?_, ctl_out]
          · cases [v, u, a, b, c].findSome? (g5 f v u a b c) <;> rfl
          · rw [lcM_ok (ds := [v, u, a, b, c].map fun k : Nat => D.int k) (r := ([v, u, a, b, c].filter fun y => decide (y ≠ x)).map fun k : Nat => D.int k) rfl ?_ ?_, bindC_ok]
            · obtain ⟨p, q, r, s, e, l1, l2, l3, n1, n2, n3, n4, _, _⟩ := filt5 hv hu hab hbc hx
              have okm : ∀ y, y ∈ [v, u, a, b, c] → (y ≤ a ∨ y = b ∨ y = c) := fun y hy => by
                simp only [List.mem_cons, List.not_mem_nil, or_false] at hy
                omega
              have hmf : ∀ y, y ∈ [p, q, r, s] → (y ≤ a ∨ y = b ∨ y = c) := fun y hy => okm y (List.mem_filter.mp (e ▸ hy)).1
              unfold g5
              rw [e]
              show un4 (Ctl.stk : Ctl Unit Unit) (.lst [D.int p, .int q, .int r, .int s]) _ = _
              rw [un4_l]
              simp only [mlist_cons, mlist_nil, bind_ok, b1_ok]
              rw [breaks_ok R hw hm (x := x) (a := p) (b := q) (c := r) (d := s) (okm x hx) (hmf p (by simp)) (hmf q (by simp)) (hmf r (by simp)) (hmf s (by simp)) n1 n2 n3 n4 (Nat.ne_of_lt l1) (Nat.ne_of_lt (Nat.lt_trans l1 l2)) (Nat.ne_of_lt (Nat.lt_trans l1 (Nat.lt_trans l2 l3))) (Nat.ne_of_lt l2) (Nat.ne_of_lt (Nat.lt_trans l2 l3)) (Nat.ne_of_lt l3), b1_ok, truth_b, bindC_ok]
              cases b5 (tn f) x p q r s with
              | true => rw [tup_ok (by simp)]; rfl
              | false => rfl
            · rw [compL_map (fun k : Nat => D.int k) (fun y => if decide (y ≠ x) = true then [D.int y] else []) fun y hy => ?_]
              · congr 1
                generalize [v, u, a, b, c] = l
                induction l with
                | nil => rfl
                | cons y l ih =>
                  rw [List.flatMap_cons, ih, List.filter_cons]
                  split <;> rfl
              · rw [b2_ok, ne_ii, b1_ok, isB_bl]
                by_cases h : y = x
                · simp [h]; rfl
                · have : ¬((y : Int) = x) := by omega
                  simp [h, this]; rfl
            · rw [List.length_map]
              have := List.length_filter_le (fun y => decide (y ≠ x)) [v, u, a, b, c]
              simp only [List.length_cons, List.length_nil] at this
              omega
  · rw [tup3, tup3, tup3, tup3, mlist_cons, mlist_cons, mlist_cons, mlist_cons, mlist_nil, bind_ok, bind_ok, bind_ok, bind_ok, b1_ok, lst_ok (by simp), bindC_ok, b1_ok, show pyItems (.lst [D.tup [D.int v, .int a, .int b], .tup [D.int v, .int a, .int c], .tup [D.int v, .int b, .int c], .tup [D.int a, .int b, .int c]]) = .ok ([(v, a, b), (v, a, c), (v, b, c), (a, b, c)].map t3D) from rfl]
    rw [lcM_ok (r := [ltr (f v a b), ltr (f v a c), ltr (f v b c), ltr (f a b c)].map fun x => strD [x]) rfl ?_ (by simp)]
    · rw [show (b2s pyJoin (.ok (.str "")) (.ok (.lst ([ltr (f v a b), ltr (f v a c), ltr (f v b c), ltr (f a b c)].map fun x => strD [x])))) = pyJoin (.str "") (.lst ([ltr (f v a b), ltr (f v a c), ltr (f v b c), ltr (f a b c)].map fun x => strD [x])) from rfl, join_signs (by simp), tup2, b2_ok, strD_LRLR, strD_RLRL, mem_str2, b1_ok, isB_bl, bindC_ok]
      unfold g4 b4
      cases (decide ([ltr (f v a b), ltr (f v a c), ltr (f v b c), ltr (f a b c)] = [76, 82, 76, 82]) || decide ([ltr (f v a b), ltr (f v a c), ltr (f v b c), ltr (f a b c)] = [82, 76, 82, 76])) with
      | true => rw [tup4]; rfl
      | false => rfl
    · have := compL_map (f := fun v4_t => un3 .stk v4_t fun v5_p v6_q v7_r => elM (.ok true) (b2 pyIx (.ok (strD w)) (b1 m_position (mlist [.ok v5_p, .ok v6_q, .ok v7_r])))) t3D (fun t => [strD [ltr (f t.1 t.2.1 t.2.2)]]) (xs := [(v, a, b), (v, a, c), (v, b, c), (a, b, c)]) fun t ht => by
        have : t.1 < t.2.1 ∧ t.2.1 < t.2.2 ∧ (t.1 ≤ a ∨ t.1 = b ∨ t.1 = c) ∧ (t.2.1 ≤ a ∨ t.2.1 = b ∨ t.2.1 = c) ∧ (t.2.2 ≤ a ∨ t.2.2 = b ∨ t.2.2 = c) := by
          simp only [List.mem_cons, List.not_mem_nil, or_false] at ht
          rcases ht with rfl | rfl | rfl | rfl <;> (dsimp only; omega)
        show elM _ (b2 pyIx (.ok (strD w)) (b1 m_position (mlist [.ok (.int t.1), .ok (.int t.2.1), .ok (.int t.2.2)]))) = _
        rw [hp _ _ _ this.1 this.2.1 this.2.2.1 this.2.2.2.1 this.2.2.2.2]
        exact elM_t rfl
      exact this
theorem last_ok {w : List Nat} {f : Nat → Nat → Nat → Int} {a b c : Nat} (R : Rd8 w f (· ≤ c)) (hw : w.length < 1000000) (hab : a < b) (hbc : b < c) (hc : c < 1000) : m_last_breach [strD w, .int a, .int b, .int c] = .ok (optD (lbr f a b c)) := by
  have le : ∀ x, (x ≤ a ∨ x = b ∨ x = c) → x ≤ c := fun x h => by omega
  exact last_part (fun x y z h1 h2 k1 k2 k3 => R x y z h1 h2 (le x k1) (le y k2) (le z k3)) hw hab hbc hc
theorem breach_ok {w : List Nat} {f : Nat → Nat → Nat → Int} {n : Nat} (R : Rd8 w f (· < n)) (hw : w.length < 1000000) (hn : n ≤ 8) : m_breach [strD w, .int n] = .ok (optD (brch f n)) := by
  show (c_breach (strD w) (.int n)).toM = _
  unfold c_breach
  rw [mlist_cons, mlist_nil, bind_ok, b1_ok, threes_ok hn, b1_ok, show pyItems (.lst ((thr n).map t3D)) = .ok ((thr n).map t3D) from rfl, bindC_ok, loopM_find t3D (fun t => lbr f t.1 t.2.1 t.2.2) fun t ht => ?_, ctl_out]
  · unfold brch
    cases (thr n).findSome? fun t => lbr f t.1 t.2.1 t.2.2 <;> rfl
  · obtain ⟨h1, h2, h3⟩ := mem_thr.mp ht
    show un3 (Ctl.stk : Ctl Unit Unit) (.tup [D.int t.1, .int t.2.1, .int t.2.2]) _ = _
    rw [un3_t, mlist_cons, mlist_cons, mlist_cons, mlist_cons, mlist_nil, bind_ok, bind_ok, bind_ok, bind_ok, b1_ok, last_ok (fun x y z k1 k2 kx ky kz => R x y z k1 k2 (by dsimp only at *; omega) (by dsimp only at *; omega) (by dsimp only at *; omega)) hw h1 h2 (by omega), bindC_ok, b2_ok]
    have hnn : ∀ d, lbr f t.1 t.2.1 t.2.2 = some d → isNon d = false := by
      intro d hd
      unfold lbr at hd
      rw [Option.or_eq_some_iff] at hd
      rcases hd with hd | ⟨_, hd⟩
      · obtain ⟨u, _, hu⟩ := List.exists_of_findSome?_eq_some hd
        unfold g4 at hu
        split at hu
        · cases hu; rfl
        · cases hu
      · obtain ⟨u, _, hu⟩ := List.exists_of_findSome?_eq_some hd
        obtain ⟨v, _, hv⟩ := List.exists_of_findSome?_eq_some hu
        obtain ⟨x, _, hx⟩ := List.exists_of_findSome?_eq_some hv
        unfold g5 at hx
        split at hx
        · split at hx
          · cases hx; rfl
          · cases hx
        · cases hx
    show ((b1 isB (.ok (.bl (!isNon (optD (lbr f t.1 t.2.1 t.2.2)))))).bindC () fun c => if c = true then _ else _) = _
    cases hq : lbr f t.1 t.2.1 t.2.2 with
    | none => rfl
    | some d =>
      rw [b1_ok, isB_bl, bindC_ok, show optD (some d) = d from rfl, hnn d hq]
      rfl
end Mir
namespace Mir
open PySem PySem.Spec L2
structure TabF (n : Nat) (f : Nat → Nat → Nat → Int) : Prop where
  lo : 3 ≤ n
  hi : n ≤ 8
  pm : ∀ a b c, a < b → b < c → c < n → f a b c = 1 ∨ f a b c = -1
  ru : brch f n = none
def tabD (n : Nat) (f : Nat → Nat → Nat → Int) : D := .obj 1 [("letters", strD (lw n f)), ("posts", .int n)]
theorem TabF.rd {n : Nat} {f : Nat → Nat → Nat → Int} (t : TabF n f) : Rd8 (lw n f) f (· < n) := fun x y z h1 h2 _ _ h3 => lw_rd t.hi (by rcases t.pm x y z h1 h2 h3 with h | h <;> simp [h]) h1 h2 h3
theorem TabF.len {n : Nat} {f : Nat → Nat → Nat → Int} (t : TabF n f) : (lw n f).length < 1000000 := by have := lw_len (f := f) t.hi; omega
theorem TabF.turn {n : Nat} {f : Nat → Nat → Nat → Int} (t : TabF n f) {a b c : Nat} (ha : a < n) (hb : b < n) (hc : c < n) (hab : a ≠ b) (hac : a ≠ c) (hbc : b ≠ c) : m_turn_of [strD (lw n f), .int a, .int b, .int c] = .ok (.int (tn f a b c)) :=
  (t.rd.turn t.len (fun x h => by have := t.hi; omega) ha hb hc hab hac hbc).1
theorem tn_pm {n : Nat} {f : Nat → Nat → Nat → Int} (pm : ∀ a b c, a < b → b < c → c < n → f a b c = 1 ∨ f a b c = -1) {a b c : Nat} (ha : a < n) (hb : b < n) (hc : c < n) (hab : a ≠ b) (hac : a ≠ c) (hbc : b ≠ c) : tn f a b c = 1 ∨ tn f a b c = -1 := by
  unfold tn
  rcases Nat.lt_or_gt_of_ne hab with h1 | h1 <;> rcases Nat.lt_or_gt_of_ne hbc with h2 | h2 <;> rcases Nat.lt_or_gt_of_ne hac with h3 | h3 <;> try omega
  · have := pm a b c (by omega) (by omega) (by omega); split <;> (try split) <;> omega
  · have := pm a c b (by omega) (by omega) (by omega); split <;> (try split) <;> omega
  · have := pm c a b (by omega) (by omega) (by omega); split <;> (try split) <;> omega
  · have := pm b a c (by omega) (by omega) (by omega); split <;> (try split) <;> omega
  · have := pm b c a (by omega) (by omega) (by omega); split <;> (try split) <;> omega
  · have := pm c b a (by omega) (by omega) (by omega); split <;> (try split) <;> omega
abbrev sizes : List (Int × Int) := [(1, 3), (4, 4), (10, 5), (20, 6), (35, 7), (56, 8)]
theorem thr_len_dec : ((List.range 9).all fun n => decide (n < 3) || decide (sizes.lookup ((thr n).length : Int) = some (n : Int))) = true := by decide +kernel
theorem size_lw {n : Nat} {f : Nat → Nat → Nat → Int} (h3 : 3 ≤ n) (h8 : n ≤ 8) : sizes.lookup ((lw n f).length : Int) = some (n : Int) := by
  have h := thr_len_dec
  simp only [List.all_eq_true, List.mem_range, Bool.or_eq_true, decide_eq_true_eq] at h
  have := (h n (by omega)).resolve_left (by omega)
  unfold lw
  rw [List.length_map]
  exact this
theorem kdIn_lw {n : Nat} {f : Nat → Nat → Nat → Int} (h3 : 3 ≤ n) (h8 : n ≤ 8) : kdIn [(1, 3), (4, 4), (10, 5), (20, 6), (35, 7), (56, 8)] true (.int (lw n f).length) = .ok (.bl false) := by
  show M.ok (D.bl (!(sizes.lookup ((lw n f).length : Int)).isSome)) = _
  rw [size_lw h3 h8]
  rfl
theorem kdGet_lw {n : Nat} {f : Nat → Nat → Nat → Int} (h3 : 3 ≤ n) (h8 : n ≤ 8) : kdGet [(1, 3), (4, 4), (10, 5), (20, 6), (35, 7), (56, 8)] (.int (lw n f).length) = .ok (.int n) := by
  show (ofOpt (sizes.lookup ((lw n f).length : Int))).bind (fun v => M.ok (D.int v)) = _
  rw [size_lw h3 h8]
  rfl
theorem takeWhile_all {p : Nat → Bool} : ∀ {l : List Nat}, (∀ x ∈ l, p x = true) → l.takeWhile p = l
  | [], _ => rfl
  | a :: l, h => by rw [List.takeWhile_cons, if_pos (h a (by simp)), takeWhile_all fun x hx => h x (by simp [hx])]
theorem strip_LR {l : List Nat} (hl : l.length < 1000000) (h : ∀ x ∈ l, x = 76 ∨ x = 82) : pyStripC (strD l) (.str "LR") = .ok (strD []) := by
  show (if Str.length ⟨l.toArray⟩ ≤ sizeLine then M.ok (D.str (Txt.stripChars ⟨l.toArray⟩ "LR")) else .stk) = _
  rw [str_len, if_pos (Nat.le_of_lt (sz_big hl))]
  unfold strD Txt.stripChars Txt.stripBy
  have hg : ∀ x ∈ l, (("LR" : Str).cps.contains x) = true := fun x hx => by
    rw [show ("LR" : Str).cps = #[76, 82] from rfl]
    rcases h x hx with h | h <;> subst h <;> simp
  have e1 : stripLo ("LR" : Str).cps.contains true ⟨l.toArray⟩ = l.length := by
    unfold stripLo
    rw [if_pos rfl]
    show (List.takeWhile _ l.toArray.toList).length = _
    rw [List.toList_toArray, takeWhile_all hg]
  have e2 : stripHi ("LR" : Str).cps.contains true ⟨l.toArray⟩ l.length = l.length := by
    unfold stripHi
    rw [if_pos rfl, str_len]
    show l.length - (List.takeWhile _ (List.drop l.length l.toArray.toList).reverse).length = _
    simp
  unfold stripSame
  rw [e1, e2, str_len]
  cases l with
  | nil => rfl
  | cons a l =>
    rw [if_neg (by simp)]
    unfold stripped
    rw [e1, e2]
    unfold Builtin.Str.strSub
    congr 3
    simp
theorem ltr_LR {n : Nat} {f : Nat → Nat → Nat → Int} (pm : ∀ a b c, a < b → b < c → c < n → f a b c = 1 ∨ f a b c = -1) : ∀ x ∈ lw n f, x = 76 ∨ x = 82 := by
  intro x hx
  unfold lw at hx
  obtain ⟨t, ht, rfl⟩ := List.mem_map.mp hx
  obtain ⟨h1, h2, h3⟩ := mem_thr.mp ht
  unfold ltr
  rcases pm _ _ _ h1 h2 h3 with h | h <;> simp [h]
abbrev strT : List (String × Bool) := [("NoneType", false), ("bool", false), ("int", false), ("str", true), ("list", false), ("tuple", false)]
theorem isi_str {l : List Nat} : isiD strT [(1, false)] (strD l) = .ok (.bl true) := rfl
theorem init_tab {n : Nat} {f : Nat → Nat → Nat → Int} (t : TabF n f) : m_Table___init [strD (lw n f)] = .ok [("letters", strD (lw n f)), ("posts", .int n)] := by
  show (c_Table___init (strD (lw n f))).toF = _
  unfold c_Table___init
  simp only [mlist_cons, mlist_nil, bind_ok, b1_ok]
  rw [isi_str, b1_ok, truth_b, notM_ok, orM_ok, if_neg (by simp), len_strD t.len, b1_ok, kdIn_lw t.lo t.hi, b1_ok, isB_bl, orM_ok, if_neg (by simp)]
  rw [show b2s pyStripC (.ok (strD (lw n f))) (.ok (.str "LR")) = pyStripC (strD (lw n f)) (.str "LR") from rfl, strip_LR t.len (ltr_LR t.pm), strD_nil, b2_ok, ne_strD, b1_ok, isB_bl, bindC_ok]
  simp only [decide_true, Bool.not_true, if_neg Bool.false_ne_true]
  rw [b1_ok, kdGet_lw t.lo t.hi, bindC_ok, breach_ok t.rd t.len t.hi, t.ru, bindC_ok]
  rfl
theorem make_tab {n : Nat} {f : Nat → Nat → Nat → Int} (t : TabF n f) : mkO 1 m_Table___init [strD (lw n f)] = .ok (tabD n f) := by
  show (m_Table___init [strD (lw n f)]).bind _ = _
  rw [init_tab t]
  rfl
theorem fld_letters {n : Nat} {f : Nat → Nat → Nat → Int} : pyFld 1 "letters" (tabD n f) = .ok (strD (lw n f)) := rfl
theorem fld_posts {n : Nat} {f : Nat → Nat → Nat → Int} : pyFld 1 "posts" (tabD n f) = .ok (.int n) := by
  show ofOpt (([("letters", strD (lw n f)), ("posts", .int n)] : List (Str × D)).lookup ("posts" : Str)) = _
  have : (([("letters", strD (lw n f)), ("posts", .int n)] : List (Str × D)).lookup ("posts" : Str)) = some (.int n) := by
    rw [List.lookup_cons, show (("posts" : Str) == ("letters" : Str)) = false by decide, List.lookup_cons]
    rfl
  rw [this]
  rfl
theorem chk3_nat {n a b c : Nat} (ha : a < n) (hb : b < n) (hc : c < n) (hab : a ≠ b) (hac : a ≠ c) (hbc : b ≠ c) : chk3 n a b c = true := chk3_iff.mpr (by omega)
theorem findSome?_none {α β : Type} {g : α → Option β} {l : List α} (h : ∀ x ∈ l, g x = none) : l.findSome? g = none := by rw [List.findSome?_eq_none_iff]; exact h
theorem brch_none {n : Nat} {f : Nat → Nat → Nat → Int} (h4 : ∀ w a b c, w < a → a < b → b < c → c < n → b4 f w a b c = false) (h5 : ∀ x p q r s, p < q → q < r → r < s → s < n → x < n → x ≠ p → x ≠ q → x ≠ r → x ≠ s → b5 (tn f) x p q r s = false) : brch f n = none := by
  refine findSome?_none fun t ht => ?_
  obtain ⟨k1, k2, k3⟩ := mem_thr.mp ht
  unfold lbr
  rw [Option.or_eq_none_iff]
  refine ⟨findSome?_none fun w hw => ?_, findSome?_none fun w hw => findSome?_none fun v hv => findSome?_none fun x hx => ?_⟩
  · unfold g4
    rw [h4 w _ _ _ (List.mem_range.mp hw) k1 k2 k3]
    rfl
  · have hw := List.mem_range.mp hw
    have hv := List.mem_range.mp hv
    obtain ⟨p, q, r, s, e, q1, q2, q3, q4, q5, q6, q7, q8, q9⟩ := filt5 hv hw k1 k2 hx
    unfold g5
    rw [e]
    have hxn : x < n := by
      simp only [List.mem_cons, List.not_mem_nil, or_false] at hx
      omega
    dsimp only
    rw [h5 x p q r s q1 q2 q3 (by omega) hxn q4 q5 q6 q7]
    rfl
theorem b5_of {t : Nat → Nat → Nat → Int} {x a b c d : Nat} : b5 t x a b c d = true ↔ brk5 t x a b c d := by
  unfold b5 brk5
  simp only [Bool.and_eq_true, decide_eq_true_eq]
end Mir
namespace Mir
open PySem PySem.Spec L2
mutual
def stdD : D → Bool
  | .non => true
  | .int _ => true
  | .str x => PyData.strOk x
  | .tup xs => stdDs xs
  | .lst xs => stdDs xs
  | _ => false
def stdDs : List D → Bool
  | [] => true
  | d :: ds => stdD d && stdDs ds
end
mutual
def depD : D → Nat
  | .tup xs => depDs xs + 1
  | .lst xs => depDs xs + 1
  | _ => 0
def depDs : List D → Nat
  | [] => 0
  | d :: ds => max (depD d) (depDs ds)
end
mutual
theorem std_py : ∀ {d : D}, stdD d = true → ∃ p, toPy d = some p ∧ p.canLay0 = true ∧ p.depth = depD d
  | .non, _ => ⟨.none, rfl, rfl, rfl⟩
  | .int i, _ => ⟨.int i, rfl, rfl, rfl⟩
  | .str x, h => ⟨.str x, rfl, by simpa [stdD, PyData.canLay0] using h, rfl⟩
  | .tup xs, h => by
    obtain ⟨ps, e, c, d⟩ := std_pys (ds := xs) (by simpa [stdD] using h)
    exact ⟨.tuple ps, by simp [toPy, e], by simpa [PyData.canLay0] using c, by simp [PyData.depth, depD, d]⟩
  | .lst xs, h => by
    obtain ⟨ps, e, c, d⟩ := std_pys (ds := xs) (by simpa [stdD] using h)
    exact ⟨.list ps, by simp [toPy, e], by simpa [PyData.canLay0] using c, by simp [PyData.depth, depD, d]⟩
  | .bl _, h => by simp [stdD] at h
  | .dct _, h => by simp [stdD] at h
  | .dks _, h => by simp [stdD] at h
  | .obj _ _, h => by simp [stdD] at h
  | .slf _ _ _, h => by simp [stdD] at h
  | .scr _, h => by simp [stdD] at h
theorem std_pys : ∀ {ds : List D}, stdDs ds = true → ∃ ps, toPys ds = some ps ∧ PyData.canLayAll0 ps = true ∧ PyData.depthAll ps = depDs ds
  | [], _ => ⟨[], rfl, rfl, rfl⟩
  | d :: ds, h => by
    have h : stdD d = true ∧ stdDs ds = true := by simpa [stdDs] using h
    obtain ⟨p, e, c, q⟩ := std_py h.1
    obtain ⟨ps, e', c', q'⟩ := std_pys h.2
    exact ⟨p :: ps, by simp [toPys, e, e'], by simp [PyData.canLayAll0, c, c'], by simp [PyData.depthAll, depDs, q, q']⟩
end
mutual
theorem eqv_std : ∀ {d e : D} {p q : PyData}, stdD d = true → stdD e = true → toPy d = some p → toPy e = some q → (PyData.eqv p q = true ↔ d = e)
  | .non, e, p, q, _, h, a, b => by
    cases a
    cases e <;> simp [stdD, toPy] at h b <;> (try subst b) <;> (try (obtain ⟨_, _, rfl⟩ := b)) <;> simp [PyData.eqv]
  | .int i, e, p, q, _, h, a, b => by
    cases a
    cases e <;> simp [stdD, toPy] at h b <;> (try subst b) <;> (try (obtain ⟨_, _, rfl⟩ := b)) <;> simp [PyData.eqv]
  | .str x, e, p, q, _, h, a, b => by
    cases a
    cases e <;> simp [stdD, toPy] at h b <;> (try subst b) <;> (try (obtain ⟨_, _, rfl⟩ := b)) <;> simp [PyData.eqv]
  | .tup xs, e, p, q, g, h, a, b => by
    have g : stdDs xs = true := by simpa [stdD] using g
    obtain ⟨ps, ep, rfl⟩ : ∃ ps, toPys xs = some ps ∧ .tuple ps = p := by simpa [toPy] using a
    cases e with
    | tup ys =>
      have h : stdDs ys = true := by simpa [stdD] using h
      obtain ⟨qs, eq, rfl⟩ : ∃ ps, toPys ys = some ps ∧ .tuple ps = q := by simpa [toPy] using b
      rw [PyData.eqv, eqvs_std g h ep eq, D.tup.injEq]
    | lst ys =>
      obtain ⟨qs, eq, rfl⟩ : ∃ ps, toPys ys = some ps ∧ .list ps = q := by simpa [toPy] using b
      simp [PyData.eqv]
    | _ => simp [stdD, toPy] at h b <;> (try subst b) <;> simp [PyData.eqv]
  | .lst xs, e, p, q, g, h, a, b => by
    have g : stdDs xs = true := by simpa [stdD] using g
    obtain ⟨ps, ep, rfl⟩ : ∃ ps, toPys xs = some ps ∧ .list ps = p := by simpa [toPy] using a
    cases e with
    | lst ys =>
      have h : stdDs ys = true := by simpa [stdD] using h
      obtain ⟨qs, eq, rfl⟩ : ∃ ps, toPys ys = some ps ∧ .list ps = q := by simpa [toPy] using b
      rw [PyData.eqv, eqvs_std g h ep eq, D.lst.injEq]
    | tup ys =>
      obtain ⟨qs, eq, rfl⟩ : ∃ ps, toPys ys = some ps ∧ .tuple ps = q := by simpa [toPy] using b
      simp [PyData.eqv]
    | _ => simp [stdD, toPy] at h b <;> (try subst b) <;> simp [PyData.eqv]
  | .bl _, _, _, _, h, _, _, _ => by simp [stdD] at h
  | .dct _, _, _, _, h, _, _, _ => by simp [stdD] at h
  | .dks _, _, _, _, h, _, _, _ => by simp [stdD] at h
  | .obj _ _, _, _, _, h, _, _, _ => by simp [stdD] at h
  | .slf _ _ _, _, _, _, h, _, _, _ => by simp [stdD] at h
  | .scr _, _, _, _, h, _, _, _ => by simp [stdD] at h
theorem eqvs_std : ∀ {ds es : List D} {ps qs : List PyData}, stdDs ds = true → stdDs es = true → toPys ds = some ps → toPys es = some qs → (PyData.eqvAll ps qs = true ↔ ds = es)
  | [], es, ps, qs, _, h, a, b => by
    cases a
    cases es with
    | nil => cases b; simp [PyData.eqvAll]
    | cons e es =>
      have h : stdD e = true ∧ stdDs es = true := by simpa [stdDs] using h
      obtain ⟨p, e1, _, _⟩ := std_py h.1
      obtain ⟨ps, e2, _, _⟩ := std_pys h.2
      simp [toPys, e1, e2] at b
      subst b
      simp [PyData.eqvAll]
  | d :: ds, es, ps, qs, g, h, a, b => by
    have g : stdD d = true ∧ stdDs ds = true := by simpa [stdDs] using g
    obtain ⟨p, e1, _, _⟩ := std_py g.1
    obtain ⟨ps', e2, _, _⟩ := std_pys g.2
    simp [toPys, e1, e2] at a
    subst a
    cases es with
    | nil => cases b; simp [PyData.eqvAll]
    | cons e es =>
      have h : stdD e = true ∧ stdDs es = true := by simpa [stdDs] using h
      obtain ⟨q, e3, _, _⟩ := std_py h.1
      obtain ⟨qs', e4, _, _⟩ := std_pys h.2
      simp [toPys, e3, e4] at b
      subst b
      rw [PyData.eqvAll, Bool.and_eq_true, eqv_std g.1 h.1 e1 e3, eqvs_std g.2 h.2 e2 e4, List.cons.injEq]
end
theorem eqS_std {x y : D} (hx : stdD x = true) (hy : stdD y = true) (h : scalD x y = true) : eqS x y = true ↔ x = y := by
  cases x <;> cases y <;> simp [scalD, eqS, stdD] at h hx hy ⊢
theorem eqD_std {x y : D} (hx : stdD x = true) (hy : stdD y = true) (dx : depD x ≤ 64) (dy : depD y ≤ 64) : ∃ b, eqD x y = .ok b ∧ (b = true ↔ x = y) := by
  unfold eqD
  by_cases h : scalD x y = true
  · rw [if_pos h]
    exact ⟨_, rfl, eqS_std hx hy h⟩
  · rw [if_neg h]
    obtain ⟨p, e1, c1, d1⟩ := std_py hx
    obtain ⟨q, e2, c2, d2⟩ := std_py hy
    rw [e1, e2]
    dsimp only
    have s1 : SeqAt.shaped p = true := by unfold SeqAt.shaped; rw [c1, d1, decide_eq_true dx]; rfl
    have s2 : SeqAt.shaped q = true := by unfold SeqAt.shaped; rw [c2, d2, decide_eq_true dy]; rfl
    rw [if_pos ⟨s1, s2⟩]
    exact ⟨_, rfl, eqv_std hx hy e1 e2⟩
theorem eq_std {x y : D} (hx : stdD x = true) (hy : stdD y = true) (dx : depD x ≤ 64) (dy : depD y ≤ 64) : ∃ b : Bool, pyEq x y = .ok (.bl b) ∧ pyNe x y = .ok (.bl (!b)) ∧ (b = true ↔ x = y) := by
  obtain ⟨b, e, h⟩ := eqD_std hx hy dx dy
  refine ⟨b, ?_, ?_, h⟩
  · unfold pyEq; rw [e]; rfl
  · unfold pyNe; rw [e]; rfl
theorem stdDs_all {l : List D} (h : ∀ d ∈ l, stdD d = true) : stdDs l = true := by
  induction l with
  | nil => rfl
  | cons d l ih => simp [stdDs, h d (by simp), ih fun e he => h e (by simp [he])]
theorem depDs_le {l : List D} {k : Nat} (h : ∀ d ∈ l, depD d ≤ k) : depDs l ≤ k := by
  induction l with
  | nil => simp [depDs]
  | cons d l ih =>
    have := h d (by simp)
    have := ih fun e he => h e (by simp [he])
    simp [depDs]
    omega
end Mir
namespace Mir
open PySem PySem.Spec L2
def c_l_can_pass (p_turns_here p_posts p_a p_b p_c : D) : Ctl Unit Unit := M.bindC (b1 pyRange1 (mlist [.ok p_posts])) () fun v4_ds => (forC (X := Unit) (S := Unit) (fun v2_d (v1_j : Unit) => (M.bindC (andM (b1 isB (b2 pyNe (.ok v2_d) (.ok p_a))) (andM (b1 isB (b2 pyNe (.ok v2_d) (.ok p_b))) (b1 isB (b2 pyNe (.ok v2_d) (.ok p_c))))) () fun c => if c = true then (M.bindC (orM (b1 isB (b2 pyNe (b2 pyIx (.ok p_turns_here) (b1 mkTup (mlist [.ok v2_d, .ok p_a, .ok p_b]))) (b2 pyIx (.ok p_turns_here) (b1 mkTup (mlist [.ok v2_d, .ok p_b, .ok p_c]))))) (b1 isB (b2 pyNe (b2 pyIx (.ok p_turns_here) (b1 mkTup (mlist [.ok v2_d, .ok p_a, .ok p_b]))) (b2 pyIx (.ok p_turns_here) (b1 mkTup (mlist [.ok v2_d, .ok p_a, .ok p_c])))))) () fun c => if c = true then (M.bindC (.ok (.bl false)) () Ctl.ret) else .nx ()) else (.nx ()) : Ctl Unit Unit).bind fun (v3_j : Unit) => .nx ()) v4_ds ()).bind fun (v1_j : Unit) => M.bindC (.ok (.bl true)) () Ctl.ret
def m_l_can_pass : List D → M D := ar5 c_l_can_pass
def c_l_ways (p_turns_here p_posts : D) : Ctl Unit Unit := M.bindC (b1 mkLst (mlist [])) () fun v1_ways_here => M.bindC (b1 pyRange1 (mlist [.ok p_posts])) () fun v12_ds => (forC (X := Unit) (S := D) (fun v3_a (v2_j : D) => M.bindC (b1 pyRange1 (mlist [.ok p_posts])) () fun v11_ds => (forC (X := Unit) (S := D) (fun v5_b (v4_j : D) => M.bindC (b1 pyRange2 (mlist [b2 pyAdd (.ok v3_a) (.ok (.int 1)), .ok p_posts])) () fun v10_ds => (forC (X := Unit) (S := D) (fun v7_c (v6_j : D) => (M.bindC (andM (b1 isB (b2 pyNe (.ok v5_b) (.ok v3_a))) (andM (b1 isB (b2 pyNe (.ok v5_b) (.ok v7_c))) (b1 pyTruth (b1 m_l_can_pass (mlist [.ok p_turns_here, .ok p_posts, .ok v3_a, .ok v5_b, .ok v7_c]))))) () fun c => if c = true then (M.bindC (appM v6_j (b1 mkTup (mlist [.ok v3_a, .ok v5_b, .ok v7_c]))) () fun v9_ways_here => .nx v9_ways_here) else (.nx v6_j) : Ctl Unit D).bind fun (v8_j : D) => .nx v8_j) v10_ds v4_j).bind fun (v6_j : D) => .nx v6_j) v11_ds v2_j).bind fun (v4_j : D) => .nx v4_j) v12_ds v1_ways_here).bind fun (v2_j : D) => M.bindC (.ok v2_j) () Ctl.ret
def m_l_ways : List D → M D := ar2 c_l_ways
end Mir
namespace Mir
abbrev Tn := Nat → Nat → Nat → Int
def Q4 (t : Tn) (w a b c : Nat) : Prop := t w a b = - t w a c ∧ - t w a c = t w b c ∧ t w b c = - t a b c
structure Alt (t : Tn) : Prop where
  s1 : ∀ a b c, a ≠ b → a ≠ c → b ≠ c → t b a c = - t a b c
  s2 : ∀ a b c, a ≠ b → a ≠ c → b ≠ c → t a c b = - t a b c
structure Tb (n : Nat) (t : Tn) : Prop where
  lo : 3 ≤ n
  hi : n ≤ 8
  al : Alt t
  pm : ∀ a b c, a < n → b < n → c < n → a ≠ b → a ≠ c → b ≠ c → t a b c = 1 ∨ t a b c = -1
  r4 : ∀ w a b c, w < n → a < n → b < n → c < n → w ≠ a → w ≠ b → w ≠ c → a ≠ b → a ≠ c → b ≠ c → ¬ Q4 t w a b c
  r5 : ∀ x a b c d, x < n → a < n → b < n → c < n → d < n → x ≠ a → x ≠ b → x ≠ c → x ≠ d → a ≠ b → a ≠ c → a ≠ d → b ≠ c → b ≠ d → c ≠ d → ¬ brk5 t x a b c d
theorem Alt.cyc {t : Tn} (h : Alt t) {a b c : Nat} (hab : a ≠ b) (hac : a ≠ c) (hbc : b ≠ c) : t b c a = t a b c := by
  have := h.s1 a b c hab hac hbc
  have := h.s2 b a c (Ne.symm hab) hbc hac
  omega
theorem Alt.cyc2 {t : Tn} (h : Alt t) {a b c : Nat} (hab : a ≠ b) (hac : a ≠ c) (hbc : b ≠ c) : t c a b = t a b c := by
  have := h.s2 a b c hab hac hbc
  have := h.s1 a c b hac hab (Ne.symm hbc)
  omega
theorem Alt.rv {t : Tn} (h : Alt t) {a b c : Nat} (hab : a ≠ b) (hac : a ≠ c) (hbc : b ≠ c) : t c b a = - t a b c := by
  have := h.cyc hab hac hbc
  have := h.s1 b c a hbc (Ne.symm hab) (Ne.symm hac)
  omega
theorem Alt.tn_eq {t : Tn} (h : Alt t) {a b c : Nat} (hab : a ≠ b) (hac : a ≠ c) (hbc : b ≠ c) : tn t a b c = t a b c := by
  unfold tn
  split <;> split <;> try split
  · rfl
  · have := h.s2 a b c hab hac hbc; omega
  · exact h.cyc2 hab hac hbc
  · have := h.s1 a b c hab hac hbc; omega
  · exact h.cyc hab hac hbc
  · have := h.rv hab hac hbc; omega
theorem pt_alt (l : List Pt) : Alt (ptT l) := ⟨fun a b c _ _ _ => ptT_swap l a b c, fun a b c _ _ _ => ptT_swap2 l a b c⟩
theorem GP.tb {l : List Pt} (g : GP l) (h3 : 3 ≤ l.length) (h8 : l.length ≤ 8) : Tb l.length (ptT l) where
  lo := h3
  hi := h8
  al := pt_alt l
  pm := fun a b c ha hb hc => g.turn ha hb hc
  r4 := fun w a b c hw ha hb hc h1 h2 h3 h4 h5 h6 q => by
    have e := crs4 (gp l w) (gp l a) (gp l b) (gp l c)
    have k1 := g.all hw ha hb h1 h2 h4
    unfold Q4 ptT at q
    rcases sgn_cases (crs (gp l w) (gp l a) (gp l b)) with h | h | h <;> rcases sgn_cases (crs (gp l w) (gp l a) (gp l c)) with i | i | i <;> rcases sgn_cases (crs (gp l w) (gp l b) (gp l c)) with j | j | j <;> rcases sgn_cases (crs (gp l a) (gp l b) (gp l c)) with k | k | k <;> omega
  r5 := fun x a b c d _ _ _ _ _ _ _ _ _ _ _ _ _ _ _ => pt_r5
section
variable {t : Tn} (h : Alt t)
include h
theorem q4_12 {w a b c : Nat} (h1 : w ≠ a) (h2 : w ≠ b) (h3 : w ≠ c) (h4 : a ≠ b) (h5 : a ≠ c) (h6 : b ≠ c) (q : Q4 t w a b c) : Q4 t a w b c := by
  have := h.s1 w a b h1 h2 h4
  have := h.s1 w a c h1 h3 h5
  unfold Q4 at *
  omega
theorem q4_23 {w a b c : Nat} (h1 : w ≠ a) (h2 : w ≠ b) (h3 : w ≠ c) (h4 : a ≠ b) (h5 : a ≠ c) (h6 : b ≠ c) (q : Q4 t w a b c) : Q4 t w b a c := by
  have := h.s2 w a b h1 h2 h4
  have := h.s1 a b c h4 h5 h6
  unfold Q4 at *
  omega
theorem q4_34 {w a b c : Nat} (h1 : w ≠ a) (h2 : w ≠ b) (h3 : w ≠ c) (h4 : a ≠ b) (h5 : a ≠ c) (h6 : b ≠ c) (q : Q4 t w a b c) : Q4 t w a c b := by
  have := h.s2 w b c h2 h3 h6
  have := h.s2 a b c h4 h5 h6
  unfold Q4 at *
  omega
omit h in
theorem or4_2 {p q r s : Prop} : (p ∨ q ∨ r ∨ s) ↔ (q ∨ p ∨ r ∨ s) := or_left_comm
omit h in
theorem or4_3 {p q r s : Prop} : (p ∨ q ∨ r ∨ s) ↔ (r ∨ p ∨ q ∨ s) := ⟨fun z => z.elim (fun z => .inr (.inl z)) fun z => z.elim (fun z => .inr (.inr (.inl z))) fun z => z.elim .inl fun z => .inr (.inr (.inr z)), fun z => z.elim (fun z => .inr (.inr (.inl z))) fun z => z.elim .inl fun z => z.elim (fun z => .inr (.inl z)) fun z => .inr (.inr (.inr z))⟩
omit h in
theorem or4_4 {p q r s : Prop} : (p ∨ q ∨ r ∨ s) ↔ (s ∨ p ∨ q ∨ r) := ⟨fun z => z.elim (fun z => .inr (.inl z)) fun z => z.elim (fun z => .inr (.inr (.inl z))) fun z => z.elim (fun z => .inr (.inr (.inr z))) .inl, fun z => z.elim (fun z => .inr (.inr (.inr z))) fun z => z.elim .inl fun z => z.elim (fun z => .inr (.inl z)) fun z => .inr (.inr (.inl z))⟩
omit h in
theorem or3_2 {p q r : Prop} : (p ∨ q ∨ r) ↔ (q ∨ p ∨ r) := or_left_comm
omit h in
theorem or3_3 {p q r : Prop} : (p ∨ q ∨ r) ↔ (r ∨ p ∨ q) := ⟨fun z => z.elim (fun z => .inr (.inl z)) fun z => z.elim (fun z => .inr (.inr z)) .inl, fun z => z.elim (fun z => .inr (.inr z)) fun z => z.elim .inl fun z => .inr (.inl z)⟩
theorem q4_front {w a b c d : Nat} (h1 : w ≠ a) (h2 : w ≠ b) (h3 : w ≠ c) (h4 : a ≠ b) (h5 : a ≠ c) (h6 : b ≠ c) (q : Q4 t w a b c) (hd : d = w ∨ d = a ∨ d = b ∨ d = c) : ∃ x y z, Q4 t d x y z ∧ (∀ u, (u = w ∨ u = a ∨ u = b ∨ u = c) ↔ (u = d ∨ u = x ∨ u = y ∨ u = z)) ∧ d ≠ x ∧ d ≠ y ∧ d ≠ z ∧ x ≠ y ∧ x ≠ z ∧ y ≠ z := by
  rcases hd with rfl | rfl | rfl | rfl
  · exact ⟨a, b, c, q, fun u => Iff.rfl, h1, h2, h3, h4, h5, h6⟩
  · exact ⟨w, b, c, q4_12 h h1 h2 h3 h4 h5 h6 q, fun u => or4_2, h1.symm, h4, h5, h2, h3, h6⟩
  · exact ⟨w, a, c, q4_12 h h2 h1 h3 h4.symm h6 h5 (q4_23 h h1 h2 h3 h4 h5 h6 q), fun u => or4_3, h2.symm, h4.symm, h6, h1, h3, h5⟩
  · exact ⟨w, a, b, q4_12 h h3 h1 h2 h5.symm h6.symm h4 (q4_23 h h1 h3 h2 h5 h4 h6.symm (q4_34 h h1 h2 h3 h4 h5 h6 q)), fun u => or4_4, h3.symm, h5.symm, h6.symm, h1, h2, h4⟩
theorem q4_second {w a b c d : Nat} (h1 : w ≠ a) (h2 : w ≠ b) (h3 : w ≠ c) (h4 : a ≠ b) (h5 : a ≠ c) (h6 : b ≠ c) (q : Q4 t w a b c) (hd : d = a ∨ d = b ∨ d = c) : ∃ y z, Q4 t w d y z ∧ (∀ u, (u = a ∨ u = b ∨ u = c) ↔ (u = d ∨ u = y ∨ u = z)) ∧ w ≠ d ∧ w ≠ y ∧ w ≠ z ∧ d ≠ y ∧ d ≠ z ∧ y ≠ z := by
  rcases hd with rfl | rfl | rfl
  · exact ⟨b, c, q, fun u => Iff.rfl, h1, h2, h3, h4, h5, h6⟩
  · exact ⟨a, c, q4_23 h h1 h2 h3 h4 h5 h6 q, fun u => or3_2, h2, h1, h3, h4.symm, h6, h5⟩
  · exact ⟨a, b, q4_23 h h1 h3 h2 h5 h4 h6.symm (q4_34 h h1 h2 h3 h4 h5 h6 q), fun u => or3_3, h3, h1, h2, h5.symm, h6.symm, h4⟩
theorem q4_three {w a b c x y z : Nat} (h1 : w ≠ a) (h2 : w ≠ b) (h3 : w ≠ c) (h4 : a ≠ b) (h5 : a ≠ c) (h6 : b ≠ c) (q : Q4 t w a b c) (hx : x = w ∨ x = a ∨ x = b ∨ x = c) (hy : y = w ∨ y = a ∨ y = b ∨ y = c) (hz : z = w ∨ z = a ∨ z = b ∨ z = c) (hxy : x ≠ y) (hxz : x ≠ z) (hyz : y ≠ z) :
    ∃ d, Q4 t x y z d ∧ (d = w ∨ d = a ∨ d = b ∨ d = c) ∧ d ≠ x ∧ d ≠ y ∧ d ≠ z := by
  obtain ⟨p, q', r, q1, e1, k1, k2, k3, k4, k5, k6⟩ := q4_front h h1 h2 h3 h4 h5 h6 q hx
  have hy' := ((e1 y).mp hy).resolve_left (Ne.symm hxy)
  have hz' := ((e1 z).mp hz).resolve_left (Ne.symm hxz)
  obtain ⟨u, v, q2, e2, m1, m2, m3, m4, m5, m6⟩ := q4_second h k1 k2 k3 k4 k5 k6 q1 hy'
  rcases (e2 z).mp hz' with rfl | rfl | rfl
  · exact absurd rfl hyz
  · exact ⟨v, q2, (e1 v).mpr (.inr ((e2 v).mpr (.inr (.inr rfl)))), m3.symm, m5.symm, m6.symm⟩
  · exact ⟨u, q4_34 h m1 m2 m3 m4 m5 m6 q2, (e1 u).mpr (.inr ((e2 u).mpr (.inr (.inl rfl)))), m2.symm, m4.symm, m6⟩
theorem b5_12 {x a b c d : Nat} (h1 : x ≠ a) (h2 : x ≠ b) (h5 : a ≠ b) (q : brk5 t x a b c d) : brk5 t x b a c d := by
  have e := h.s2 x a b h1 h2 h5
  obtain ⟨q1, q2, q3⟩ := q
  unfold brk5
  refine ⟨?_, ?_, ?_⟩ <;> grind
theorem b5_23 {x a b c d : Nat} (h1 : x ≠ b) (h2 : x ≠ c) (h5 : b ≠ c) (q : brk5 t x a b c d) : brk5 t x a c b d := by
  have e := h.s2 x b c h1 h2 h5
  obtain ⟨q1, q2, q3⟩ := q
  unfold brk5
  refine ⟨?_, ?_, ?_⟩ <;> grind
theorem b5_34 {x a b c d : Nat} (h1 : x ≠ c) (h2 : x ≠ d) (h5 : c ≠ d) (q : brk5 t x a b c d) : brk5 t x a b d c := by
  have e := h.s2 x c d h1 h2 h5
  obtain ⟨q1, q2, q3⟩ := q
  unfold brk5
  refine ⟨?_, ?_, ?_⟩ <;> grind
theorem b5_front {x a b c d y : Nat} (h1 : x ≠ a) (h2 : x ≠ b) (h3 : x ≠ c) (h4 : x ≠ d) (h5 : a ≠ b) (h6 : a ≠ c) (h7 : a ≠ d) (h8 : b ≠ c) (h9 : b ≠ d) (h10 : c ≠ d) (q : brk5 t x a b c d) (hy : y = a ∨ y = b ∨ y = c ∨ y = d) :
    ∃ p r s, brk5 t x y p r s ∧ (∀ u, (u = a ∨ u = b ∨ u = c ∨ u = d) ↔ (u = y ∨ u = p ∨ u = r ∨ u = s)) ∧ y ≠ p ∧ y ≠ r ∧ y ≠ s ∧ p ≠ r ∧ p ≠ s ∧ r ≠ s := by
  rcases hy with rfl | rfl | rfl | rfl
  · exact ⟨b, c, d, q, fun u => Iff.rfl, h5, h6, h7, h8, h9, h10⟩
  · exact ⟨a, c, d, b5_12 h h1 h2 h5 q, fun u => or4_2, h5.symm, h8, h9, h6, h7, h10⟩
  · exact ⟨a, b, d, b5_12 h h1 h3 h6 (b5_23 h h2 h3 h8 q), fun u => or4_3, h6.symm, h8.symm, h10, h5, h7, h9⟩
  · exact ⟨a, b, c, b5_12 h h1 h4 h7 (b5_23 h h2 h4 h9 (b5_34 h h3 h4 h10 q)), fun u => or4_4, h7.symm, h9.symm, h10.symm, h5, h6, h8⟩
theorem b5_second {x a b c d y : Nat} (h2 : x ≠ b) (h3 : x ≠ c) (h4 : x ≠ d) (h5 : a ≠ b) (h6 : a ≠ c) (h7 : a ≠ d) (h8 : b ≠ c) (h9 : b ≠ d) (h10 : c ≠ d) (q : brk5 t x a b c d) (hy : y = b ∨ y = c ∨ y = d) :
    ∃ r s, brk5 t x a y r s ∧ (∀ u, (u = b ∨ u = c ∨ u = d) ↔ (u = y ∨ u = r ∨ u = s)) ∧ a ≠ y ∧ a ≠ r ∧ a ≠ s ∧ y ≠ r ∧ y ≠ s ∧ r ≠ s := by
  rcases hy with rfl | rfl | rfl
  · exact ⟨c, d, q, fun u => Iff.rfl, h5, h6, h7, h8, h9, h10⟩
  · exact ⟨b, d, b5_23 h h2 h3 h8 q, fun u => or3_2, h6, h5, h7, h8.symm, h10, h9⟩
  · exact ⟨b, c, b5_23 h h2 h4 h9 (b5_34 h h3 h4 h10 q), fun u => or3_3, h7, h5, h6, h9.symm, h10.symm, h8⟩
theorem b5_two {x a b c d y z : Nat} (h1 : x ≠ a) (h2 : x ≠ b) (h3 : x ≠ c) (h4 : x ≠ d) (h5 : a ≠ b) (h6 : a ≠ c) (h7 : a ≠ d) (h8 : b ≠ c) (h9 : b ≠ d) (h10 : c ≠ d) (q : brk5 t x a b c d) (hy : y = a ∨ y = b ∨ y = c ∨ y = d) (hz : z = a ∨ z = b ∨ z = c ∨ z = d) (hyz : y ≠ z) :
    ∃ r s, brk5 t x y z r s ∧ (r = a ∨ r = b ∨ r = c ∨ r = d) ∧ (s = a ∨ s = b ∨ s = c ∨ s = d) ∧ r ≠ y ∧ r ≠ z ∧ s ≠ y ∧ s ≠ z ∧ r ≠ s := by
  obtain ⟨p, r, s, q1, e1, k1, k2, k3, k4, k5, k6⟩ := b5_front h h1 h2 h3 h4 h5 h6 h7 h8 h9 h10 q hy
  have hz' := (e1 z).mp hz
  have x1 : x ≠ p := fun e => by have := (e1 p).mpr (by grind); grind
  have x2 : x ≠ r := fun e => by have := (e1 r).mpr (by grind); grind
  have x3 : x ≠ s := fun e => by have := (e1 s).mpr (by grind); grind
  obtain ⟨u, v, q2, e2, m1, m2, m3, m4, m5, m6⟩ := b5_second h x1 x2 x3 k1 k2 k3 k4 k5 k6 q1 (y := z) (by grind)
  refine ⟨u, v, q2, (e1 u).mpr ?_, (e1 v).mpr ?_, by grind, by grind, by grind, by grind, by grind⟩
  · have := (e2 u).mpr (by grind); grind
  · have := (e2 v).mpr (by grind); grind
end
def rev (t : Tn) (a b c : Nat) : Tn := fun x y z => if (a = x ∨ a = y ∨ a = z) ∧ (b = x ∨ b = y ∨ b = z) ∧ (c = x ∨ c = y ∨ c = z) then - t x y z else t x y z
theorem rev_no {t : Tn} {a b c x y z : Nat} (h : ¬((a = x ∨ a = y ∨ a = z) ∧ (b = x ∨ b = y ∨ b = z) ∧ (c = x ∨ c = y ∨ c = z))) : rev t a b c x y z = t x y z := if_neg h
theorem rev_yes {t : Tn} {a b c x y z : Nat} (h : (a = x ∨ a = y ∨ a = z) ∧ (b = x ∨ b = y ∨ b = z) ∧ (c = x ∨ c = y ∨ c = z)) : rev t a b c x y z = - t x y z := if_pos h
def Sees (t : Tn) (d a b c : Nat) : Prop := t d a b = t d b c ∧ t d a b = t d a c
def Can (t : Tn) (n a b c : Nat) : Prop := ∀ d, d < n → d ≠ a → d ≠ b → d ≠ c → Sees t d a b c
theorem rev_alt {t : Tn} (h : Alt t) (a b c : Nat) : Alt (rev t a b c) := by
  have sw : ∀ {u x y z : Nat}, (u = x ∨ u = z ∨ u = y) → (u = x ∨ u = y ∨ u = z) := fun k => k.imp_right Or.symm
  refine ⟨fun x y z h1 h2 h3 => ?_, fun x y z h1 h2 h3 => ?_⟩
  · have e := h.s1 x y z h1 h2 h3
    by_cases k : (a = x ∨ a = y ∨ a = z) ∧ (b = x ∨ b = y ∨ b = z) ∧ (c = x ∨ c = y ∨ c = z)
    · rw [rev_yes k, rev_yes ⟨or3_2.mp k.1, or3_2.mp k.2.1, or3_2.mp k.2.2⟩, e]
    · rw [rev_no k, rev_no (fun z => k ⟨or3_2.mp z.1, or3_2.mp z.2.1, or3_2.mp z.2.2⟩), e]
  · have e := h.s2 x y z h1 h2 h3
    by_cases k : (a = x ∨ a = y ∨ a = z) ∧ (b = x ∨ b = y ∨ b = z) ∧ (c = x ∨ c = y ∨ c = z)
    · rw [rev_yes k, rev_yes ⟨sw k.1, sw k.2.1, sw k.2.2⟩, e]
    · rw [rev_no k, rev_no (fun z => k ⟨sw z.1, sw z.2.1, sw z.2.2⟩), e]
theorem pig2 {a b c x y : Nat} (hab : a ≠ b) (hac : a ≠ c) (hbc : b ≠ c) (ha : a = x ∨ a = y) (hb : b = x ∨ b = y) (hc : c = x ∨ c = y) : False := by
  rcases ha with rfl | rfl
  · rcases hb with z | rfl
    · exact hab z.symm
    · exact hc.elim (fun z => hac z.symm) fun z => hbc z.symm
  · rcases hb with rfl | z
    · exact hc.elim (fun z => hbc z.symm) fun z => hac z.symm
    · exact hab z.symm
theorem tri {a b c x u v : Nat} (hab : a ≠ b) (hac : a ≠ c) (hbc : b ≠ c) (ha : a = x ∨ a = u ∨ a = v) (hb : b = x ∨ b = u ∨ b = v) (hc : c = x ∨ c = u ∨ c = v) : x = a ∨ x = b ∨ x = c :=
  Decidable.byContradiction fun h => pig2 hab hac hbc (ha.resolve_left fun z => h (.inl z.symm)) (hb.resolve_left fun z => h (.inr (.inl z.symm))) (hc.resolve_left fun z => h (.inr (.inr z.symm)))
theorem mem5 {a x u v p q r s : Nat} (hu : u = p ∨ u = q ∨ u = r ∨ u = s) (hv : v = p ∨ v = q ∨ v = r ∨ v = s) (ha : a = x ∨ a = u ∨ a = v) : a = x ∨ a = p ∨ a = q ∨ a = r ∨ a = s := by
  rcases ha with rfl | rfl | rfl
  · exact .inl rfl
  · exact .inr hu
  · exact .inr hv
theorem ne4 {x p q r s d : Nat} (h1 : x ≠ p) (h2 : x ≠ q) (h3 : x ≠ r) (h4 : x ≠ s) (hd : d = p ∨ d = q ∨ d = r ∨ d = s) : x ≠ d := by
  rcases hd with rfl | rfl | rfl | rfl <;> assumption
theorem rev_x {t : Tn} {a b c x y d : Nat} (h1 : d ≠ a) (h2 : d ≠ b) (h3 : d ≠ c) (hab : a ≠ b) (hac : a ≠ c) (hbc : b ≠ c) : Mir.rev t a b c x y d = t x y d := rev_no fun ⟨ha, hb, hc⟩ =>
  pig2 hab hac hbc (ha.imp_right fun z => z.resolve_right (Ne.symm h1)) (hb.imp_right fun z => z.resolve_right (Ne.symm h2)) (hc.imp_right fun z => z.resolve_right (Ne.symm h3))
section
variable {t : Tn} (al : Alt t) {a b c d e : Nat} (hab : a ≠ b) (hac : a ≠ c) (hbc : b ≠ c) (d1 : d ≠ a) (d2 : d ≠ b) (d3 : d ≠ c) (e1 : e ≠ a) (e2 : e ≠ b) (e3 : e ≠ c) (s1 : Sees t d a b c) (s2 : Sees t e a b c) (p1 : t d a b = 1 ∨ t d a b = -1) (p2 : t e a b = 1 ∨ t e a b = -1)
include al hab hac hbc d1 d2 d3 e1 e2 e3 s1 s2 p1 p2
theorem rev5_a (B : brk5 (Mir.rev t a b c) a b c d e) : False := by
  obtain ⟨_, B, _⟩ := B
  rw [rev_x d1 d2 d3 hab hac hbc, rev_x e1 e2 e3 hab hac hbc, rev_x e1 e2 e3 hab hac hbc, rev_x d1 d2 d3 hab hac hbc] at B
  rw [al.cyc d1 d2 hab, al.cyc e1 e2 hab, al.cyc d1 d3 hac, al.cyc e1 e3 hac, ← s1.2, ← s2.2] at B
  rcases p1 with b1 | b1 <;> rcases p2 with b2 | b2 <;> rw [b1, b2] at B <;> omega
theorem rev5_b (B : brk5 (Mir.rev t a b c) b a c d e) : False := by
  obtain ⟨_, B, _⟩ := B
  rw [rev_x d1 d2 d3 hab hac hbc, rev_x e1 e2 e3 hab hac hbc, rev_x e1 e2 e3 hab hac hbc, rev_x d1 d2 d3 hab hac hbc] at B
  rw [al.rv d1 d2 hab, al.rv e1 e2 hab, al.cyc d2 d3 hbc, al.cyc e2 e3 hbc, ← s1.1, ← s2.1] at B
  rcases p1 with b1 | b1 <;> rcases p2 with b2 | b2 <;> rw [b1, b2] at B <;> omega
theorem rev5_c (B : brk5 (Mir.rev t a b c) c a b d e) : False := by
  obtain ⟨_, B, _⟩ := B
  rw [rev_x d1 d2 d3 hab hac hbc, rev_x e1 e2 e3 hab hac hbc, rev_x e1 e2 e3 hab hac hbc, rev_x d1 d2 d3 hab hac hbc] at B
  rw [al.rv d1 d3 hac, al.rv e1 e3 hac, al.rv d2 d3 hbc, al.rv e2 e3 hbc, ← s1.1, ← s1.2, ← s2.1, ← s2.2] at B
  rcases p1 with b1 | b1 <;> rcases p2 with b2 | b2 <;> rw [b1, b2] at B <;> omega
end
theorem rev4 {t : Tn} (al : Alt t) {a b c d : Nat} (hab : a ≠ b) (hac : a ≠ c) (hbc : b ≠ c) (d1 : d ≠ a) (d2 : d ≠ b) (d3 : d ≠ c) (s1 : Sees t d a b c) (p1 : t d a b = 1 ∨ t d a b = -1) (Q : Q4 (Mir.rev t a b c) a b c d) : False := by
  unfold Q4 at Q
  rw [rev_x d1 d2 d3 hab hac hbc, rev_x d1 d2 d3 hab hac hbc, rev_x d1 d2 d3 hab hac hbc, al.cyc d1 d2 hab, al.cyc d1 d3 hac, al.cyc d2 d3 hbc, ← s1.1, ← s1.2] at Q
  omega
theorem Tb.rev {n : Nat} {t : Tn} (T : Tb n t) {a b c : Nat} (ha : a < n) (hb : b < n) (hc : c < n) (hab : a ≠ b) (hac : a ≠ c) (hbc : b ≠ c) (can : Can t n a b c) : Tb n (rev t a b c) := by
  have al' := rev_alt T.al a b c
  have pm' : ∀ x y z, x < n → y < n → z < n → x ≠ y → x ≠ z → y ≠ z → Mir.rev t a b c x y z = 1 ∨ Mir.rev t a b c x y z = -1 := fun x y z h1 h2 h3 h4 h5 h6 => by
    have q := T.pm x y z h1 h2 h3 h4 h5 h6
    by_cases k : (a = x ∨ a = y ∨ a = z) ∧ (b = x ∨ b = y ∨ b = z) ∧ (c = x ∨ c = y ∨ c = z)
    · rw [rev_yes k]; clear h4 h5 h6 hab hac hbc k; omega
    · rw [rev_no k]; exact q
  refine ⟨T.lo, T.hi, al', pm', ?_, ?_⟩
  · intro w p q r hw hp hq hr h1 h2 h3 h4 h5 h6 Q
    by_cases k : (a = w ∨ a = p ∨ a = q ∨ a = r) ∧ (b = w ∨ b = p ∨ b = q ∨ b = r) ∧ (c = w ∨ c = p ∨ c = q ∨ c = r)
    · obtain ⟨d, Q', hd, d1, d2, d3⟩ := q4_three al' h1 h2 h3 h4 h5 h6 Q k.1 k.2.1 k.2.2 hab hac hbc
      have hdn : d < n := by rcases hd with rfl | rfl | rfl | rfl <;> assumption
      exact rev4 T.al hab hac hbc d1 d2 d3 (can d hdn d1 d2 d3) (T.pm d a b hdn ha hb d1 d2 hab) Q'
    · refine T.r4 w p q r hw hp hq hr h1 h2 h3 h4 h5 h6 ?_
      have no : ∀ x y z, (x = w ∨ x = p ∨ x = q ∨ x = r) → (y = w ∨ y = p ∨ y = q ∨ y = r) → (z = w ∨ z = p ∨ z = q ∨ z = r) → Mir.rev t a b c x y z = t x y z := fun x y z hx hy hz => rev_no fun k' => k ⟨by rcases k'.1 with h | h | h <;> (rw [h]; assumption), by rcases k'.2.1 with h | h | h <;> (rw [h]; assumption), by rcases k'.2.2 with h | h | h <;> (rw [h]; assumption)⟩
      unfold Q4 at Q ⊢
      rw [no w p q (by simp) (by simp) (by simp), no w p r (by simp) (by simp) (by simp), no w q r (by simp) (by simp) (by simp), no p q r (by simp) (by simp) (by simp)] at Q
      exact Q
  · intro x p q r s hx hp hq hr hs h1 h2 h3 h4 h5 h6 h7 h8 h9 h10 B
    by_cases k : (x = a ∨ x = b ∨ x = c) ∧ (a = x ∨ a = p ∨ a = q ∨ a = r ∨ a = s) ∧ (b = x ∨ b = p ∨ b = q ∨ b = r ∨ b = s) ∧ (c = x ∨ c = p ∨ c = q ∨ c = r ∨ c = s)
    · obtain ⟨k0, ka, kb, kc⟩ := k
      have lt : ∀ d, d = p ∨ d = q ∨ d = r ∨ d = s → d < n := fun d hd => by rcases hd with rfl | rfl | rfl | rfl <;> assumption
      have nx : ∀ d, d = p ∨ d = q ∨ d = r ∨ d = s → d ≠ x := fun d hd => (ne4 h1 h2 h3 h4 hd).symm
      rcases k0 with rfl | rfl | rfl
      · obtain ⟨d, e, B', hd, he, d1, d2, e1, e2, de⟩ := b5_two al' h1 h2 h3 h4 h5 h6 h7 h8 h9 h10 B (y := b) (z := c) (kb.resolve_left hab.symm) (kc.resolve_left hac.symm) hbc
        exact rev5_a T.al hab hac hbc (nx d hd) d1 d2 (nx e he) e1 e2 (can d (lt d hd) (nx d hd) d1 d2) (can e (lt e he) (nx e he) e1 e2) (T.pm d x b (lt d hd) ha hb (nx d hd) d1 hab) (T.pm e x b (lt e he) ha hb (nx e he) e1 hab) B'
      · obtain ⟨d, e, B', hd, he, d1, d2, e1, e2, de⟩ := b5_two al' h1 h2 h3 h4 h5 h6 h7 h8 h9 h10 B (y := a) (z := c) (ka.resolve_left hab) (kc.resolve_left hbc.symm) hac
        exact rev5_b T.al hab hac hbc d1 (nx d hd) d2 e1 (nx e he) e2 (can d (lt d hd) d1 (nx d hd) d2) (can e (lt e he) e1 (nx e he) e2) (T.pm d a x (lt d hd) ha hb d1 (nx d hd) hab) (T.pm e a x (lt e he) ha hb e1 (nx e he) hab) B'
      · obtain ⟨d, e, B', hd, he, d1, d2, e1, e2, de⟩ := b5_two al' h1 h2 h3 h4 h5 h6 h7 h8 h9 h10 B (y := a) (z := b) (ka.resolve_left hac) (kb.resolve_left hbc) hab
        exact rev5_c T.al hab hac hbc d1 d2 (nx d hd) e1 e2 (nx e he) (can d (lt d hd) d1 d2 (nx d hd)) (can e (lt e he) e1 e2 (nx e he)) (T.pm d a b (lt d hd) ha hb d1 d2 hab) (T.pm e a b (lt e he) ha hb e1 e2 hab) B'
    · refine T.r5 x p q r s hx hp hq hr hs h1 h2 h3 h4 h5 h6 h7 h8 h9 h10 ?_
      have no : ∀ u v, (u = p ∨ u = q ∨ u = r ∨ u = s) → (v = p ∨ v = q ∨ v = r ∨ v = s) → Mir.rev t a b c x u v = t x u v := fun u v hu hv => rev_no fun k' => k ⟨tri hab hac hbc k'.1 k'.2.1 k'.2.2, mem5 hu hv k'.1, mem5 hu hv k'.2.1, mem5 hu hv k'.2.2⟩
      unfold brk5 at B ⊢
      rw [no p q (by simp) (by simp), no r s (by simp) (by simp), no p r (by simp) (by simp), no q s (by simp) (by simp), no p s (by simp) (by simp), no q r (by simp) (by simp)] at B
      exact B
end Mir
namespace Mir
open PySem PySem.Spec L2
theorem Tb.tab {n : Nat} {t : Tn} (T : Tb n t) : TabF n t := by
  have pm : ∀ a b c, a < b → b < c → c < n → t a b c = 1 ∨ t a b c = -1 := fun a b c h1 h2 h3 => T.pm a b c (by omega) (by omega) h3 (by omega) (by omega) (by omega)
  refine ⟨T.lo, T.hi, pm, brch_none (fun w a b c h1 h2 h3 h4 => ?_) fun x p q r s h1 h2 h3 h4 h5 h6 h7 h8 h9 => ?_⟩
  · have k := T.r4 w a b c (by omega) (by omega) (by omega) h4 (by omega) (by omega) (by omega) (by omega) (by omega) (by omega)
    unfold Q4 at k
    unfold b4 ltr
    rcases pm w a b (by omega) (by omega) (by omega) with e1 | e1 <;> rcases pm w a c (by omega) (by omega) (by omega) with e2 | e2 <;> rcases pm w b c (by omega) (by omega) (by omega) with e3 | e3 <;> rcases pm a b c (by omega) (by omega) (by omega) with e4 | e4 <;> simp [e1, e2, e3, e4] at k ⊢
  · have k := T.r5 x p q r s h5 (by omega) (by omega) (by omega) h4 h6 h7 h8 h9 (by omega) (by omega) (by omega) (by omega) (by omega) (by omega)
    cases hb : b5 (tn t) x p q r s with
    | false => rfl
    | true =>
      exfalso
      apply k
      have hb := b5_of.mp hb
      unfold brk5 at hb ⊢
      rw [T.al.tn_eq h6 h7 (by omega), T.al.tn_eq h8 h9 (by omega), T.al.tn_eq h6 h8 (by omega), T.al.tn_eq h7 h9 (by omega), T.al.tn_eq h6 h9 (by omega), T.al.tn_eq h7 h8 (by omega)] at hb
      exact hb
theorem Tb.ne0 {n : Nat} {t : Tn} (T : Tb n t) : ∀ a b c, a < b → b < c → c < n → t a b c ≠ 0 := fun a b c h1 h2 h3 => by have := T.tab.pm a b c h1 h2 h3; omega
def trp (n : Nat) : List T3 := (List.range n).flatMap fun a => (List.range n).flatMap fun b => (List.range n).flatMap fun c => if a ≠ b ∧ a ≠ c ∧ b ≠ c then [(a, b, c)] else []
theorem mem_trp {n : Nat} {t : T3} : t ∈ trp n ↔ t.1 < n ∧ t.2.1 < n ∧ t.2.2 < n ∧ t.1 ≠ t.2.1 ∧ t.1 ≠ t.2.2 ∧ t.2.1 ≠ t.2.2 := by
  obtain ⟨a, b, c⟩ := t
  unfold trp
  simp only [List.mem_flatMap, List.mem_range]
  constructor
  · rintro ⟨a', ha, b', hb, c', hc, h⟩
    split at h
    · rename_i k
      obtain ⟨rfl, rfl, rfl⟩ : a = a' ∧ b = b' ∧ c = c' := by simpa using h
      exact ⟨ha, hb, hc, k⟩
    · simp at h
  · rintro ⟨ha, hb, hc, k⟩
    exact ⟨a, ha, b, hb, c, hc, by rw [if_pos k]; simp⟩
def canB (t : Tn) (n a b c : Nat) : Bool := !(List.range n).any fun d => decide (d ≠ a ∧ d ≠ b ∧ d ≠ c) && (decide (t d a b ≠ t d b c) || decide (t d a b ≠ t d a c))
theorem canB_iff {t : Tn} {n a b c : Nat} : canB t n a b c = true ↔ Can t n a b c := by
  unfold canB Can Sees
  simp only [Bool.not_eq_true', List.any_eq_false, List.mem_range, Bool.and_eq_true, Bool.or_eq_true, decide_eq_true_eq, not_and, not_or, Decidable.not_not]
  constructor
  · intro h d hd h1 h2 h3; exact h d hd ⟨h1, h2, h3⟩
  · intro h d hd k; exact h d hd k.1 k.2.1 k.2.2
theorem ne_nat {a b : Nat} : pyNe (.int a) (.int b) = .ok (.bl (decide (a ≠ b))) := by
  rw [ne_ii]
  congr 2
  by_cases h : a = b
  · simp [h]
  · have : ¬((a : Int) = b) := by omega
    simp [h, this]
theorem range_n {n : Nat} (h : n < 1000000) : b1 pyRange1 (mlist [.ok (.int n)]) = .ok (rangeD 0 n) := by rw [mlist_cons, mlist_nil, bind_ok, b1_ok, range_i (by omega), Int.toNat_natCast]
theorem can_ok {n a b c : Nat} {t : Tn} (hn : n ≤ 8) (ha : a < n) (hb : b < n) (hc : c < n) (hab : a ≠ b) (hac : a ≠ c) (hbc : b ≠ c) : m_l_can_pass [.dct (turnsK n t), .int n, .int a, .int b, .int c] = .ok (.bl (canB t n a b c)) := by
  show (c_l_can_pass (.dct (turnsK n t)) (.int n) (.int a) (.int b) (.int c)).toM = _
  unfold c_l_can_pass
  rw [range_n (by omega), bindC_ok, loopR_any (r := .bl false) (fun d => decide (d ≠ a ∧ d ≠ b ∧ d ≠ c) && (decide (t d a b ≠ t d b c) || decide (t d a b ≠ t d a c))) fun d hd => ?_]
  · unfold canB
    cases (List.range n).any fun d => decide (d ≠ a ∧ d ≠ b ∧ d ≠ c) && (decide (t d a b ≠ t d b c) || decide (t d a b ≠ t d a c)) <;> rfl
  · simp only [b2_ok, ne_nat, b1_ok, isB_bl, tup3]
    by_cases h1 : d = a
    · subst h1; simp
    by_cases h2 : d = b
    · subst h2; simp [h1]
    by_cases h3 : d = c
    · subst h3; simp [h1, h2]
    have e1 : pyIx (.dct (turnsK n t)) (.tup [.int d, .int a, .int b]) = .ok (.int (t d a b)) := ix_turns hd ha hb h1 h2 hab
    have e2 : pyIx (.dct (turnsK n t)) (.tup [.int d, .int b, .int c]) = .ok (.int (t d b c)) := ix_turns hd hb hc h2 h3 hbc
    have e3 : pyIx (.dct (turnsK n t)) (.tup [.int d, .int a, .int c]) = .ok (.int (t d a c)) := ix_turns hd ha hc h1 h3 hac
    rw [e1, e2, e3]
    simp only [b2_ok, ne_ii, b1_ok, isB_bl, h1, h2, h3, ne_eq, not_false_eq_true, decide_true, andM_ok, if_true, bindC_ok, orM_ok, and_self, Bool.true_and]
    by_cases k1 : t d a b = t d b c
    · rw [← k1]
      by_cases k2 : t d a b = t d a c
      · simp [k2]
      · simp [k2]
    · simp [k1]
theorem mem_t3 {x : Nat} {t : T3} : b2 (memD false) (.ok (.int x)) (.ok (t3D t)) = .ok (.bl (decide (x = t.1 ∨ x = t.2.1 ∨ x = t.2.2))) := by
  rw [b2_ok]
  show M.ok (D.bl (((t.1 : Int) == (x : Int)) || (((t.2.1 : Int) == (x : Int)) || (((t.2.2 : Int) == (x : Int)) || false)))) = _
  congr 2
  rw [Bool.eq_iff_iff]
  simp only [Bool.or_eq_true, beq_iff_eq, Bool.or_false, decide_eq_true_eq]
  have k : ∀ m : Nat, ((m : Int) = (x : Int)) ↔ x = m := fun m => ⟨fun h => (Int.ofNat_inj.mp h).symm, fun h => by rw [h]⟩
  rw [k, k, k]
def wE (t : Tn) (n a b c : Nat) : List T3 := if b ≠ a ∧ b ≠ c ∧ canB t n a b c = true then [(a, b, c)] else []
def wC (t : Tn) (n a b k : Nat) : List T3 := (List.range k).flatMap fun i => wE t n a b (a + 1 + i)
def wB (t : Tn) (n a b : Nat) : List T3 := (List.range b).flatMap fun b => wC t n a b (n - (a + 1))
def wA (t : Tn) (n a : Nat) : List T3 := (List.range a).flatMap fun a => wB t n a n
def waysL (t : Tn) (n : Nat) : List T3 := wA t n n
theorem mem_ways {t : Tn} {n : Nat} {x : T3} : x ∈ waysL t n ↔ x.1 < x.2.2 ∧ x.2.2 < n ∧ x.2.1 < n ∧ x.2.1 ≠ x.1 ∧ x.2.1 ≠ x.2.2 ∧ canB t n x.1 x.2.1 x.2.2 = true := by
  obtain ⟨a, b, c⟩ := x
  unfold waysL wA wB wC wE
  simp only [List.mem_flatMap, List.mem_range]
  constructor
  · rintro ⟨a', ha, b', hb, i, hi, h⟩
    split at h
    · rename_i k
      simp only [List.mem_singleton, Prod.mk.injEq] at h
      obtain ⟨rfl, rfl, rfl⟩ := h
      exact ⟨by omega, by omega, hb, k⟩
    · simp at h
  · rintro ⟨h1, h2, h3, h4, h5, h6⟩
    refine ⟨a, by omega, b, h3, c - (a + 1), by omega, ?_⟩
    rw [show a + 1 + (c - (a + 1)) = c by omega, if_pos ⟨h4, h5, h6⟩]
    simp
theorem len_wC {t : Tn} {n a b k : Nat} : (wC t n a b k).length ≤ k := by
  have := len_flat (g := fun i => wE t n a b (a + 1 + i)) (k := 1) (l := List.range k) fun x _ => by unfold wE; split <;> simp
  rw [List.length_range] at this
  unfold wC
  omega
theorem len_wB {t : Tn} {n a b : Nat} (hn : n ≤ 8) (hb : b ≤ 8) : (wB t n a b).length ≤ 64 := by
  have := len_flat (g := fun b => wC t n a b (n - (a + 1))) (k := 8) (l := List.range b) fun x _ => Nat.le_trans len_wC (by omega)
  rw [List.length_range] at this
  unfold wB
  omega
theorem len_wA {t : Tn} {n a : Nat} (hn : n ≤ 8) (ha : a ≤ 8) : (wA t n a).length ≤ 512 := by
  have := len_flat (g := fun a => wB t n a n) (k := 64) (l := List.range a) fun x _ => len_wB hn hn
  rw [List.length_range] at this
  unfold wA
  omega
def t3sD (l : List T3) : D := .lst (l.map t3D)
theorem app_t3s {l : List T3} {x : T3} (h : l.length < 100000) : appM (t3sD l) (.ok (t3D x)) = .ok (t3sD (l ++ [x])) := by
  unfold t3sD
  show (if (l.map t3D).length < sizeLine then M.ok (D.lst (l.map t3D ++ [t3D x])) else .stk) = _
  rw [if_pos (by rw [List.length_map]; exact sz_big (by omega)), List.map_append]
  rfl
theorem loopR2_st {X S : Type} {f : D → S → Ctl X S} {lo n : Nat} (g : Nat → S) (h : ∀ j : Nat, j < n → f (.int (lo + j : Nat)) (g j) = .nx (g (j + 1))) : forC f (rangeD lo n) (g 0) = .nx (g n) := by
  have := loop_st (f := f) (ds := rangeD lo n) g fun j d hj => by
    obtain ⟨hl, rfl⟩ := range_at hj
    have := h j hl
    rw [Int.natCast_add] at this
    exact this
  rw [range_len] at this
  exact this
theorem range2_i {a b : Int} (h : -(2 ^ 62) ≤ a ∧ a < 2 ^ 62 ∧ -(2 ^ 62) ≤ b ∧ b < 2 ^ 62) : pyRange2 [.int a, .int b] = .ok (rangeD a (b - a).toNat) := if_pos h
theorem ways_ok {n : Nat} {t : Tn} (hn : n ≤ 8) : m_l_ways [.dct (turnsK n t), .int n] = .ok (t3sD (waysL t n)) := by
  show (c_l_ways (.dct (turnsK n t)) (.int n)).toM = _
  unfold c_l_ways
  rw [show b1 mkLst (mlist []) = .ok (t3sD []) from rfl, bindC_ok, range_n (by omega), bindC_ok]
  rw [show t3sD [] = (fun a => t3sD (wA t n a)) 0 from rfl, loopR_st (fun a => t3sD (wA t n a)) fun a ha => ?_]
  · rfl
  · rw [bindC_ok]
    have h1 : t3sD (wA t n a) = (fun b => t3sD (wA t n a ++ wB t n a b)) 0 := by show _ = t3sD (wA t n a ++ []); rw [List.append_nil]
    rw [h1, loopR_st (fun b => t3sD (wA t n a ++ wB t n a b)) fun b hb => ?_]
    · rw [ctl_nx]
      unfold wA
      rw [flat_succ]
    · have hr : b1 pyRange2 (mlist [b2 pyAdd (.ok (.int a)) (.ok (.int 1)), .ok (.int n)]) = .ok (rangeD (a + 1 : Nat) (n - (a + 1))) := by
        rw [b2_ok, add_ii, mlist_cons, mlist_cons, mlist_nil, bind_ok, bind_ok, b1_ok]
        rw [range2_i (by omega)]
        congr 2
        omega
      rw [hr, bindC_ok]
      have h2 : t3sD (wA t n a ++ wB t n a b) = (fun i => t3sD (wA t n a ++ wB t n a b ++ wC t n a b i)) 0 := by show _ = t3sD (wA t n a ++ wB t n a b ++ []); rw [List.append_nil]
      rw [h2, loopR2_st (fun i => t3sD (wA t n a ++ wB t n a b ++ wC t n a b i)) fun i hi => ?_]
      · rw [ctl_nx]
        unfold wB
        rw [flat_succ, List.append_assoc]
      · rw [b2_ok, ne_nat, b1_ok, isB_bl, b2_ok, ne_nat, b1_ok, isB_bl]
        have e : wC t n a b (i + 1) = wC t n a b i ++ wE t n a b (a + 1 + i) := flat_succ _ _
        rw [e]
        unfold wE
        by_cases k1 : b = a
        · simp [k1]
        by_cases k2 : b = a + 1 + i
        · simp [k2]
        rw [mlist_cons, mlist_cons, mlist_cons, mlist_cons, mlist_cons, mlist_nil, bind_ok, bind_ok, bind_ok, bind_ok, bind_ok, b1_ok, can_ok hn ha hb (by omega) (by omega) (by omega) (by omega), b1_ok, truth_b]
        simp only [k1, k2, ne_eq, not_false_eq_true, decide_true, andM_ok, if_true, bindC_ok, true_and]
        cases canB t n a b (a + 1 + i) with
        | false => simp
        | true =>
          rw [if_pos rfl, b1_ok, tup_ok (by simp)]
          have := app_t3s (l := wA t n a ++ wB t n a b ++ wC t n a b i) (x := (a, b, a + 1 + i)) (by
            rw [List.length_append, List.length_append]
            have := len_wA (t := t) (n := n) (a := a) hn (by omega)
            have := len_wB (t := t) (n := n) (a := a) (b := b) hn (by omega)
            have := len_wC (t := t) (n := n) (a := a) (b := b) (k := i)
            omega)
          have e2 : t3D (a, b, a + 1 + i) = .tup [.int a, .int b, .int (a + 1 + i : Nat)] := rfl
          rw [e2] at this
          rw [this]
          simp
end Mir
namespace Mir
open PySem PySem.Spec L2
theorem draw_n (l : List Int) (k many : Nat) (h : 0 < many) : ∃ d : Nat, m_l_draw [intsD l, .int k, .int many] = .ok (.int d) ∧ d < many := by
  have z0 : 0 ≤ drawn l k many := drawn_nonneg (by omega)
  have y0 : drawn l k many < many := drawn_lt (by omega)
  refine ⟨(drawn l k many).toNat, ?_, by omega⟩
  rw [draw_ok l k many (by omega)]
  congr 2
  omega
theorem start_ok (l : List Int) (at0 n : Nat) (h3 : 3 ≤ n) (h8 : n ≤ 8) : ∃ t, Tb n t ∧ b1 m_l_turns (mlist [b1 m_l_places (mlist [.ok (intsD l), .ok (.int at0), .ok (.int n)])]) = .ok (.dct (turnsK n t)) := by
  obtain ⟨ps, e1, len, g, hb⟩ := places_ok l at0 n h8
  refine ⟨ptT ps, by rw [← len]; exact g.tb (by omega) (by omega), ?_⟩
  rw [mlist_cons, mlist_cons, mlist_cons, mlist_nil, bind_ok, bind_ok, bind_ok, b1_ok, e1, mlist_cons, mlist_nil, bind_ok, b1_ok, turns_ok hb (by omega), len]
theorem word_ok {n : Nat} {t : Tn} (T : Tb n t) : b1 m_l_letters (mlist [.ok (.dct (turnsK n t)), .ok (.int n)]) = .ok (strD (lw n t)) := by
  rw [mlist_cons, mlist_cons, mlist_nil, bind_ok, bind_ok, b1_ok, letters_ok T.hi T.ne0]
theorem make_ok {n : Nat} {t : Tn} (T : Tb n t) : b1 (mkO 1 m_Table___init) (mlist [.ok (strD (lw n t))]) = .ok (tabD n t) := by
  rw [mlist_cons, mlist_nil, bind_ok, b1_ok, make_tab T.tab]
theorem items_strD {l : List Nat} : pyItems (strD l) = .ok (l.map fun c => strD [c]) := by
  show M.ok (signsD ⟨l.toArray⟩) = _
  unfold signsD
  rw [show (Str.mk l.toArray).cps.toList = l from List.toList_toArray]
  rfl
end Mir
namespace Mir
open PySem PySem.Spec L2
def c_l_named (p_pool_here p_at p_posts p_many : D) : Ctl Unit Unit := M.bindC (lcM (b1 pyRange1 (mlist [.ok p_posts])) (fun v2_k => elM (.ok true) (.ok v2_k))) () fun v1_left => M.bindC (b1 mkLst (mlist [])) () fun v3_named_here => M.bindC (b1 pyRange1 (mlist [.ok p_many])) () fun v7_ds => (forC (X := Unit) (S := D × D) (fun v5_k (v4_j : D × D) => M.bindC (appPopM v4_j.2 v4_j.1 (flatM (b1 m_l_draw (mlist [.ok p_pool_here, b2 pyAdd (.ok p_at) (.ok v5_k), b1 pyLen (mlist [.ok v4_j.1])])))) () fun v6_p => .nx (v6_p.2, v6_p.1)) v7_ds (v1_left, v3_named_here)).bind fun (v4_j : D × D) => M.bindC (.ok v4_j.2) () Ctl.ret
def m_l_named : List D → M D := ar4 c_l_named
end Mir
namespace Mir
open PySem PySem.Spec L2
section
variable {α : Type} {m : List D → M α} {a b c d e : D}
theorem c1 : b1 m (mlist [.ok a]) = m [a] := by rw [mlist_cons, mlist_nil, bind_ok, b1_ok]
theorem c2 : b1 m (mlist [.ok a, .ok b]) = m [a, b] := by rw [mlist_cons, mlist_cons, mlist_nil, bind_ok, bind_ok, b1_ok]
theorem c3 : b1 m (mlist [.ok a, .ok b, .ok c]) = m [a, b, c] := by rw [mlist_cons, mlist_cons, mlist_cons, mlist_nil, bind_ok, bind_ok, bind_ok, b1_ok]
theorem c4 : b1 m (mlist [.ok a, .ok b, .ok c, .ok d]) = m [a, b, c, d] := by rw [mlist_cons, mlist_cons, mlist_cons, mlist_cons, mlist_nil, bind_ok, bind_ok, bind_ok, bind_ok, b1_ok]
theorem c5 : b1 m (mlist [.ok a, .ok b, .ok c, .ok d, .ok e]) = m [a, b, c, d, e] := by rw [mlist_cons, mlist_cons, mlist_cons, mlist_cons, mlist_cons, mlist_nil, bind_ok, bind_ok, bind_ok, bind_ok, bind_ok, b1_ok]
end
theorem erase_perm {α : Type} : ∀ {l : List α} {j : Nat} (h : j < l.length), (l[j] :: l.eraseIdx j).Perm l
  | a :: l, 0, _ => .refl _
  | a :: l, j + 1, h => ((List.Perm.swap a _ _)).trans ((erase_perm (l := l) (j := j) (by simpa using h)).cons a)
theorem erase_map {α β : Type} (f : α → β) : ∀ (l : List α) (k : Nat), (l.map f).eraseIdx k = (l.eraseIdx k).map f
  | [], _ => rfl
  | _ :: _, 0 => rfl
  | a :: l, k + 1 => congrArg (f a :: ·) (erase_map f l k)
theorem nodup_at {α : Type} {l : List α} (nd : l.Nodup) {i j : Nat} (hi : i < l.length) (hj : j < l.length) (e : l[i] = l[j]) : i = j := by
  rcases Nat.lt_trichotomy i j with h | h | h
  · exact absurd e (List.pairwise_iff_getElem.mp nd i j hi hj h)
  · exact h
  · exact absurd e.symm (List.pairwise_iff_getElem.mp nd j i hj hi h)
def natsL (l : List Nat) : D := .lst (natsD l)
theorem ix_nats {l : List Nat} {k : Nat} (h : k < l.length) : pyIx (natsL l) (.int k) = .ok (.int l[k]) := by
  show ofOpt (atI (natsD l) (k : Int)) = _
  rw [atI_nat (x := D.int l[k]) (by unfold natsD; rw [List.getElem?_map, List.getElem?_eq_getElem h]; rfl)]
  rfl
theorem len_nats {l : List Nat} : b1 pyLen (mlist [.ok (natsL l)]) = .ok (.int l.length) := by
  rw [mlist_cons, mlist_nil, bind_ok, b1_ok]
  show M.ok (D.int (natsD l).length) = _
  unfold natsD
  rw [List.length_map]
theorem seqIx {k n : Nat} (h : k < n) : seqIndex? (k : Int) n = some k := by
  unfold seqIndex?
  have h1 : ¬((k : Int) < 0) := by omega
  simp only [h1, if_false]
  rw [if_pos (by simp; omega)]
  simp
theorem pop_ok {xs ys : List D} {i : Int} (h : -(2 ^ 63) ≤ i ∧ i < 2 ^ 63 ∧ xs.length < sizeLine) : appPopM (.lst xs) (.lst ys) (.ok (.int i)) = (ofOpt (seqIndex? i ys.length)).bind fun k => (ofOpt ys[k]?).bind fun y => .ok (.lst (xs ++ [y]), .lst (ys.eraseIdx k)) := if_pos h
theorem pop_nats {x y : List Nat} {k : Nat} (hx : x.length < 1000) (hy : y.length < 1000) (h : k < y.length) : appPopM (natsL x) (natsL y) (.ok (.int k)) = .ok (natsL (x ++ [y[k]]), natsL (y.eraseIdx k)) := by
  have h1 : (natsD y).length = y.length := by unfold natsD; rw [List.length_map]
  have h2 : (natsD x).length = x.length := by unfold natsD; rw [List.length_map]
  unfold natsL
  rw [pop_ok ⟨by omega, by omega, by rw [h2]; exact sz_big (by omega)⟩, h1, seqIx h]
  show (ofOpt (natsD y)[k]?).bind (fun v => M.ok (D.lst (natsD x ++ [v]), D.lst ((natsD y).eraseIdx k))) = _
  have e : (natsD y)[k]? = some (D.int y[k]) := by unfold natsD; rw [List.getElem?_map, List.getElem?_eq_getElem h]; rfl
  rw [e]
  show M.ok (D.lst (natsD x ++ [D.int y[k]]), D.lst ((natsD y).eraseIdx k)) = _
  unfold natsD
  rw [List.map_append, erase_map]
  rfl
structure Named (n many : Nat) (l : List Nat) : Prop where
  len : l.length = many
  nd : l.Nodup
  lt : ∀ x ∈ l, x < n
theorem range_comp {n : Nat} (h : n < 1000) : lcM (b1 pyRange1 (mlist [.ok (.int n)])) (fun v2_k => elM (.ok true) (.ok v2_k)) = .ok (natsL (List.range n)) := by
  rw [lcM_ok (range_n (by omega)) (compR (fun j => [D.int j]) fun j hj => elM_t rfl) ?_]
  · unfold natsL natsD
    rw [List.map_eq_flatMap]
  · have := len_flat (g := fun j : Nat => [D.int j]) (k := 1) (l := List.range n) fun x _ => by simp
    rw [List.length_range] at this
    omega
theorem named_ok (l : List Int) (at0 n many : Nat) (hm : many ≤ n) (hn : n ≤ 8) : ∃ p, m_l_named [intsD l, .int at0, .int n, .int many] = .ok (natsL p) ∧ Named n many p := by
  have main : RetIs (c_l_named (intsD l) (.int at0) (.int n) (.int many)) fun d => ∃ p, d = natsL p ∧ Named n many p := by
    unfold c_l_named
    rw [range_comp (by omega), bindC_ok, show b1 mkLst (mlist []) = .ok (natsL []) from rfl, bindC_ok, range_n (by omega), bindC_ok]
    refine NxIs.ret (loopR_nx (fun k (s : D × D) => ∃ left named : List Nat, s = (natsL left, natsL named) ∧ (left ++ named).Perm (List.range n) ∧ named.length = k) ⟨List.range n, [], rfl, by simp, rfl⟩ ?_) ?_
    · rintro k s hk ⟨left, named, rfl, pm, hl⟩
      dsimp only
      have hlen := pm.length_eq
      rw [List.length_append, List.length_range] at hlen
      rw [len_nats, b2_ok, add_ii, mlist_cons, mlist_cons, mlist_cons, mlist_nil, bind_ok, bind_ok, bind_ok, b1_ok]
      obtain ⟨j, ej, hj⟩ := draw_n l (at0 + k) left.length (by omega)
      rw [Int.natCast_add] at ej
      rw [ej, show flatM (.ok (D.int j)) = .ok (D.int j) from rfl, pop_nats (by omega) (by omega) hj, bindC_ok]
      refine .mk ⟨_, _, rfl, ?_, by rw [List.length_append, List.length_singleton, hl]⟩
      refine List.Perm.trans ?_ pm
      have h1 := erase_perm hj
      have h2 : (left.eraseIdx j ++ (named ++ [left[j]])).Perm (left[j] :: left.eraseIdx j ++ named) := by
        rw [← List.append_assoc]
        refine List.perm_append_comm.trans ?_
        simp
      exact h2.trans (h1.append_right named)
    · rintro s ⟨left, named, rfl, pm, hl⟩
      dsimp only
      rw [bindC_ok]
      refine .mk ⟨named, rfl, hl, ?_, fun x hx => ?_⟩
      · have := pm.nodup_iff.mpr List.nodup_range
        exact (List.nodup_append.mp this).2.1
      · exact List.mem_range.mp (pm.mem_iff.mp (List.mem_append_right _ hx))
  obtain ⟨d, e, p, rfl, h⟩ := main
  refine ⟨p, ?_, h⟩
  show (c_l_named (intsD l) (.int at0) (.int n) (.int many)).toM = _
  rw [e]
  rfl
def nm (p : List Nat) (a : Nat) : Nat := p.getD a 0
theorem nm_at {p : List Nat} {a : Nat} (h : a < p.length) : nm p a = p[a] := by unfold nm; rw [List.getD_eq_getElem?_getD, List.getElem?_eq_getElem h]; rfl
theorem Named.inj {n many : Nat} {p : List Nat} (h : Named n many p) {a b : Nat} (ha : a < many) (hb : b < many) (hab : a ≠ b) : nm p a ≠ nm p b := by
  have ha' : a < p.length := by rw [h.len]; exact ha
  have hb' : b < p.length := by rw [h.len]; exact hb
  rw [nm_at ha', nm_at hb']
  intro e
  exact hab (nodup_at h.nd ha' hb' e)
theorem lw_congr {n : Nat} {t u : Tn} (h : ∀ a b c, a < b → b < c → c < n → t a b c = u a b c) : lw n t = lw n u := by
  unfold lw
  refine List.map_congr_left fun x hx => ?_
  obtain ⟨h1, h2, h3⟩ := mem_thr.mp hx
  rw [h _ _ _ h1 h2 h3]
theorem intsOf_map (z : List Int) : intsOf (z.map D.int) = some z := by
  induction z with
  | nil => rfl
  | cons a z ih => show (intsOf (z.map D.int)).map (a :: ·) = _; rw [ih]; rfl
theorem sorted_ints {z : List Int} : b1 pySorted (mlist [.ok (intsD z)]) = .ok (intsD (isortI z)) := by
  rw [mlist_cons, mlist_nil, bind_ok, b1_ok]
  show (ofOpt (intsOf (z.map D.int))).bind (fun ns => M.ok (D.lst ((isortI ns).map D.int))) = _
  rw [intsOf_map]
  rfl
end Mir
namespace Mir
open PySem PySem.Spec L2
def c_blocker (p_letters p_posts p_a p_b p_c : D) : Ctl Unit Unit := M.bindC (b1 pyRange1 (mlist [.ok p_posts])) () fun v5_ds => (forC (X := Unit) (S := Unit) (fun v2_d (v1_j : Unit) => (M.bindC (b1 isB (b2 (memD true) (.ok v2_d) (b1 mkTup (mlist [.ok p_a, .ok p_b, .ok p_c])))) () fun c => if c = true then (M.bindC (b1 m_turn_of (mlist [.ok p_letters, .ok v2_d, .ok p_a, .ok p_b])) () fun v4_seen => M.bindC (orM (b1 isB (b2 pyNe (.ok v4_seen) (b1 m_turn_of (mlist [.ok p_letters, .ok v2_d, .ok p_b, .ok p_c])))) (b1 isB (b2 pyNe (.ok v4_seen) (b1 m_turn_of (mlist [.ok p_letters, .ok v2_d, .ok p_a, .ok p_c]))))) () fun c => if c = true then (M.bindC (.ok v2_d) () Ctl.ret) else .nx ()) else (.nx ()) : Ctl Unit Unit).bind fun (v3_j : Unit) => .nx ()) v5_ds ()).bind fun (v1_j : Unit) => M.bindC (.ok .non) () Ctl.ret
def m_blocker : List D → M D := ar5 c_blocker
end Mir
namespace Mir
open PySem PySem.Spec L2
def blP (t : Tn) (a b c d : Nat) : Bool := decide (d ≠ a ∧ d ≠ b ∧ d ≠ c) && (decide (t d a b ≠ t d b c) || decide (t d a b ≠ t d a c))
def blkO (t : Tn) (n a b c : Nat) : Option Nat := (List.range n).find? (blP t a b c)
def optN : Option Nat → D
  | some d => .int d
  | none => .non
theorem blkO_none {t : Tn} {n a b c : Nat} : blkO t n a b c = none ↔ canB t n a b c = true := by
  unfold blkO canB
  rw [List.find?_eq_none, Bool.not_eq_true', List.any_eq_false]
  rfl
theorem find_findSome {α β : Type} (p : α → Bool) (f : α → β) : ∀ l : List α, l.findSome? (fun x => if p x = true then some (f x) else none) = (l.find? p).map f
  | [] => rfl
  | a :: l => by
    rw [List.findSome?_cons, List.find?_cons, find_findSome p f l]
    cases p a <;> rfl
theorem mem_no3 {d a b c : Nat} : b2 (memD true) (.ok (.int d)) (b1 mkTup (mlist [.ok (.int a), .ok (.int b), .ok (.int c)])) = .ok (.bl (decide (d ≠ a ∧ d ≠ b ∧ d ≠ c))) := by
  rw [tup3, b2_ok]
  show M.ok (D.bl !(((a : Int) == (d : Int)) || (((b : Int) == (d : Int)) || (((c : Int) == (d : Int)) || false)))) = _
  congr 2
  rw [Bool.eq_iff_iff]
  simp only [Bool.not_eq_true', Bool.or_eq_false_iff, beq_eq_false_iff_ne, Bool.or_false, decide_eq_true_eq]
  omega
theorem blocker_ok {n a b c : Nat} {t : Tn} (T : Tb n t) (ha : a < n) (hb : b < n) (hc : c < n) (hab : a ≠ b) (hac : a ≠ c) (hbc : b ≠ c) : m_blocker [strD (lw n t), .int n, .int a, .int b, .int c] = .ok (optN (blkO t n a b c)) := by
  show (c_blocker (strD (lw n t)) (.int n) (.int a) (.int b) (.int c)).toM = _
  unfold c_blocker
  have hn := T.hi
  rw [range_n (by omega), bindC_ok, loopR_find (fun d => if blP t a b c d = true then some (.int d) else none) fun d hd => ?_, find_findSome, ctl_out]
  · unfold blkO
    cases (List.range n).find? (blP t a b c) <;> rfl
  · rw [mem_no3, b1_ok, isB_bl, bindC_ok]
    unfold blP
    by_cases h : d ≠ a ∧ d ≠ b ∧ d ≠ c
    · obtain ⟨h1, h2, h3⟩ := h
      rw [if_pos (decide_eq_true ⟨h1, h2, h3⟩), c4 (m := m_turn_of), c4 (m := m_turn_of), c4 (m := m_turn_of), T.tab.turn hd ha hb h1 h2 hab, T.tab.turn hd hb hc h2 h3 hbc, T.tab.turn hd ha hc h1 h3 hac, T.al.tn_eq h1 h2 hab, T.al.tn_eq h2 h3 hbc, T.al.tn_eq h1 h3 hac, bindC_ok, b2_ok, ne_ii, b1_ok, isB_bl, orM_ok, b2_ok, ne_ii, b1_ok, isB_bl, bindC_ok]
      by_cases k1 : t d a b = t d b c
      · rw [← k1]
        by_cases k2 : t d a b = t d a c
        · simp [k2, h1, h2, h3]
        · simp [k2, h1, h2, h3]
      · simp [k1, h1, h2, h3]
    · rw [if_neg (by simpa using h)]
      simp only [h, decide_false, Bool.false_and]
      rfl
def NL (n : Nat) : List T3 := (List.range n).flatMap fun a => (List.range n).flatMap fun b => (List.range n).flatMap fun c => if a < c ∧ b ≠ a ∧ b ≠ c then [(a, b, c)] else []
theorem ways_len {t : Tn} {n : Nat} (hn : n ≤ 8) : (waysL t n).length ≤ 512 := len_wA hn hn
end Mir
namespace Mir
open PySem PySem.Spec L2
def bk (n : Nat) (p : List Nat) : List Nat := (List.range n).map fun k => p.idxOf k
theorem b1_draw {l : List Int} {k m : D} : b1 m_l_draw (mlist [.ok (intsD l), .ok k, .ok m]) = m_l_draw [intsD l, k, m] := by
  rw [mlist_cons, mlist_cons, mlist_cons, mlist_nil, bind_ok, bind_ok, bind_ok, b1_ok]
end Mir
namespace Mir
open PySem PySem.Spec L2
end Mir
namespace Mir
open PySem PySem.Spec L2
def c_with_reversed (p_letters p_a p_b p_c : D) : Ctl Unit Unit := M.bindC (b1 pySorted (mlist [b1 mkLst (mlist [.ok p_a, .ok p_b, .ok p_c])])) () fun v1_t => un3 .stk v1_t fun v2_low v3_middle v4_high => M.bindC (b1 m_position (mlist [.ok v2_low, .ok v3_middle, .ok v4_high])) () fun v5_at => M.bindC (b2 pyIx (.ok (.dks (cD [("L", "R"), ("R", "L"), ("?", "?")]))) (b2 pyIx (.ok p_letters) (.ok v5_at))) () fun v6_other => M.bindC (b2 pyAdd (b2 pyAdd (slM (.ok p_letters) (.ok none) (b1 someI (.ok v5_at))) (.ok v6_other)) (slM (.ok p_letters) (b1 someI (b2 pyAdd (.ok v5_at) (.ok (.int 1)))) (.ok none))) () Ctl.ret
def m_with_reversed : List D → M D := ar4 c_with_reversed
def c_Table___rshift (p_self p_other : D) : Ctl Unit Unit := M.bindC (b1 m_check_passing (mlist [b1 (pyFld 1 "posts") (.ok p_self), .ok p_other])) () fun _ => M.bindC (.ok p_other) () fun v1_t => un3 .stk v1_t fun v2_a v3_b v4_c => M.bindC (b1 m_blocker (mlist [b1 (pyFld 1 "letters") (.ok p_self), b1 (pyFld 1 "posts") (.ok p_self), .ok v2_a, .ok v3_b, .ok v4_c])) () fun v5_observer => M.bindC (b1 isB (b2 pyIsNot (.ok v5_observer) (.ok .non))) () fun c => if c = true then (M.bindC (mlist [.ok v5_observer]) () (exnF 4 "observer" ())) else M.bindC (b1 (mkO 1 m_Table___init) (mlist [b1 m_with_reversed (mlist [b1 (pyFld 1 "letters") (.ok p_self), .ok v2_a, .ok v3_b, .ok v4_c])])) () Ctl.ret
def m_Table___rshift : List D → M D := ar2 c_Table___rshift
end Mir
namespace Mir
open PySem PySem.Spec L2
theorem pre_strD {l : List Nat} {k : Nat} (h : l.length < 1000000) : slM (.ok (strD l)) (.ok none) (b1 someI (.ok (.int k))) = .ok (strD (l.take k)) := by
  show (if Str.length ⟨l.toArray⟩ ≤ sizeLine then M.ok (D.str (L2.cutS ⟨l.toArray⟩ none (some (k : Int)))) else .stk) = _
  rw [str_len, if_pos (Nat.le_of_lt (sz_big h))]
  unfold L2.cutS
  rw [str_len, HT.sIx_nat, HT.sIx_none, List.drop_zero, Nat.sub_zero]
  show M.ok (D.str ⟨(List.take (min k l.length) l).toArray⟩) = M.ok (D.str ⟨(l.take k).toArray⟩)
  have e : List.take (min k l.length) l = l.take k := by
    by_cases hk : k ≤ l.length
    · rw [Nat.min_eq_left hk]
    · rw [Nat.min_eq_right (by omega), List.take_length, List.take_of_length_le (by omega)]
  rw [e]
theorem post_strD {l : List Nat} {k : Nat} (h : l.length < 1000000) : slM (.ok (strD l)) (b1 someI (.ok (.int k))) (.ok none) = .ok (strD (l.drop k)) := by
  show (if Str.length ⟨l.toArray⟩ ≤ sizeLine then M.ok (D.str (L2.cutS ⟨l.toArray⟩ (some (k : Int)) none)) else .stk) = _
  rw [str_len, if_pos (Nat.le_of_lt (sz_big h))]
  unfold L2.cutS
  rw [str_len, HT.sIx_nat, HT.sIx_none]
  show M.ok (D.str ⟨(List.take (l.length - min k l.length) (l.drop (min k l.length))).toArray⟩) = M.ok (D.str ⟨(l.drop k).toArray⟩)
  have e : List.take (l.length - min k l.length) (l.drop (min k l.length)) = l.drop k := by
    by_cases hk : k ≤ l.length
    · rw [Nat.min_eq_left hk, List.take_of_length_le (by rw [List.length_drop]; omega)]
    · rw [Nat.min_eq_right (by omega), List.drop_of_length_le (i := k) (by omega), List.drop_of_length_le (i := l.length) (by omega), List.take_nil]
  rw [e]
theorem thr_at_dec : ((List.range 9).all fun n => ((thr n).zipIdx).all fun p => decide (pos p.1.1 p.1.2.1 p.1.2.2 = p.2)) = true := by decide +kernel
theorem thr_at {n : Nat} (hn : n ≤ 8) {i : Nat} (hi : i < (thr n).length) : pos (thr n)[i].1 (thr n)[i].2.1 (thr n)[i].2.2 = i := by
  have h := List.all_eq_true.mp thr_at_dec n (List.mem_range.mpr (by omega))
  have h := List.all_eq_true.mp h ((thr n)[i], i) (by
    rw [List.mem_zipIdx_iff_getElem?]
    exact List.getElem?_eq_getElem hi)
  exact of_decide_eq_true h
theorem thr_psn {n a b c : Nat} (hn : n ≤ 8) (hab : a < b) (hbc : b < c) (hc : c < n) : ∃ h : pos a b c < (thr n).length, (thr n)[pos a b c] = (a, b, c) := by
  obtain ⟨i, hi, e⟩ := List.getElem_of_mem (mem_thr.mpr ⟨hab, hbc, hc⟩ : (a, b, c) ∈ thr n)
  have := thr_at hn hi
  rw [e] at this
  subst this
  exact ⟨hi, e⟩
def oth (x : Nat) : Nat := if x = 76 then 82 else if x = 82 then 76 else x
theorem oth_ltr {z : Int} (h : z = 1 ∨ z = -1) : oth (ltr z) = ltr (-z) := by
  rcases h with rfl | rfl <;> rfl
theorem srt3 {a b c p q r : Nat} (h1 : a < b) (h2 : b < c) (k1 : p < q) (k2 : q < r) (ha : a = p ∨ a = q ∨ a = r) (hb : b = p ∨ b = q ∨ b = r) (hc : c = p ∨ c = q ∨ c = r) : a = p ∧ b = q ∧ c = r := by
  have lo : p ≤ a := ha.elim (fun z => Nat.le_of_eq z.symm) fun z => z.elim (fun z => z ▸ Nat.le_of_lt k1) fun z => z ▸ Nat.le_of_lt (Nat.lt_trans k1 k2)
  have hi : c ≤ r := hc.elim (fun z => z ▸ Nat.le_of_lt (Nat.lt_trans k1 k2)) fun z => z.elim (fun z => z ▸ Nat.le_of_lt k2) fun z => Nat.le_of_eq z
  have eb : b = q := hb.elim (fun z => absurd (z ▸ h1) (Nat.not_lt.mpr lo)) fun z => z.elim id fun z => absurd (z ▸ h2) (Nat.not_lt.mpr hi)
  subst eb
  exact ⟨ha.elim id fun z => z.elim (fun z => absurd h1 (z ▸ Nat.lt_irrefl _)) fun z => absurd h1 (z ▸ Nat.not_lt.mpr (Nat.le_of_lt k2)), rfl, hc.elim (fun z => absurd h2 (z ▸ Nat.not_lt.mpr (Nat.le_of_lt k1))) fun z => z.elim (fun z => absurd h2 (z ▸ Nat.lt_irrefl _)) id⟩
theorem lw_rev {n a b c : Nat} {t : Tn} (hn : n ≤ 8) (hab : a < b) (hbc : b < c) (hc : c < n) (h : t a b c = 1 ∨ t a b c = -1) : (lw n t).set (pos a b c) (oth (ltr (t a b c))) = lw n (rev t a b c) := by
  obtain ⟨hp, ep⟩ := thr_psn hn hab hbc hc
  unfold lw
  refine List.ext_getElem (by rw [List.length_set, List.length_map, List.length_map]) fun i h1 h2 => ?_
  rw [List.length_map] at h2
  rw [List.getElem_set]
  by_cases e : pos a b c = i
  · subst e
    rw [if_pos rfl, List.getElem_map, ep, oth_ltr h, rev_yes ⟨.inl rfl, .inr (.inl rfl), .inr (.inr rfl)⟩]
  · rw [if_neg e, List.getElem_map, List.getElem_map]
    have hx := thr_at hn h2
    have hm := mem_thr.mp (List.getElem_mem h2)
    generalize (thr n)[i] = x at *
    obtain ⟨p, q, r⟩ := x
    dsimp only at *
    rw [rev_no]
    intro z
    obtain ⟨k1, k2, k3⟩ := srt3 hab hbc hm.1 hm.2.1 z.1 z.2.1 z.2.2
    subst k1 k2 k3
    exact e hx
theorem rev_12 {t : Tn} {a b c : Nat} : rev t b a c = rev t a b c := by
  funext x y z
  unfold rev
  by_cases h : (a = x ∨ a = y ∨ a = z) ∧ (b = x ∨ b = y ∨ b = z) ∧ (c = x ∨ c = y ∨ c = z)
  · rw [if_pos h, if_pos ⟨h.2.1, h.1, h.2.2⟩]
  · rw [if_neg h, if_neg fun k => h ⟨k.2.1, k.1, k.2.2⟩]
theorem rev_23 {t : Tn} {a b c : Nat} : rev t a c b = rev t a b c := by
  funext x y z
  unfold rev
  by_cases h : (a = x ∨ a = y ∨ a = z) ∧ (b = x ∨ b = y ∨ b = z) ∧ (c = x ∨ c = y ∨ c = z)
  · rw [if_pos h, if_pos ⟨h.1, h.2.2, h.2.1⟩]
  · rw [if_neg h, if_neg fun k => h ⟨k.1, k.2.2, k.2.1⟩]
theorem rev_rev {t : Tn} {a b c : Nat} : rev (rev t a b c) a b c = t := by
  funext x y z
  unfold rev
  by_cases h : (a = x ∨ a = y ∨ a = z) ∧ (b = x ∨ b = y ∨ b = z) ∧ (c = x ∨ c = y ∨ c = z)
  · rw [if_pos h, if_pos h, Int.neg_neg]
  · rw [if_neg h, if_neg h]
theorem isort3 {x y z : Nat} (hxy : x ≠ y) (hxz : x ≠ z) (hyz : y ≠ z) : ∃ a b c : Nat, isortI [(x : Int), (y : Int), (z : Int)] = [(a : Int), (b : Int), (c : Int)] ∧ a < b ∧ b < c ∧ (∀ u, (u = x ∨ u = y ∨ u = z) ↔ (u = a ∨ u = b ∨ u = c)) ∧ ∀ t : Tn, rev t x y z = rev t a b c := by
  have ev : ∀ {p q r : Int}, isortI [p, q, r] = insI p (insI q [r]) := rfl
  have i2 : ∀ {p q : Int}, insI p [q] = if p ≤ q then [p, q] else [q, p] := rfl
  have i3 : ∀ {p q r : Int}, insI p [q, r] = if p ≤ q then [p, q, r] else q :: insI p [r] := rfl
  rw [ev, i2]
  rcases Nat.lt_or_gt_of_ne hyz with h1 | h1
  · rw [if_pos (by omega), i3]
    rcases Nat.lt_or_gt_of_ne hxy with h2 | h2
    · rw [if_pos (by omega)]
      exact ⟨x, y, z, rfl, h2, h1, fun u => Iff.rfl, fun t => rfl⟩
    · rw [if_neg (by omega), i2]
      rcases Nat.lt_or_gt_of_ne hxz with h3 | h3
      · rw [if_pos (by omega)]
        exact ⟨y, x, z, rfl, h2, h3, fun u => by omega, fun t => rev_12⟩
      · rw [if_neg (by omega)]
        exact ⟨y, z, x, rfl, h1, h3, fun u => by omega, fun t => by rw [rev_12, rev_23]⟩
  · rw [if_neg (by omega), i3]
    rcases Nat.lt_or_gt_of_ne hxz with h2 | h2
    · rw [if_pos (by omega)]
      exact ⟨x, z, y, rfl, h2, h1, fun u => by omega, fun t => rev_23⟩
    · rw [if_neg (by omega), i2]
      rcases Nat.lt_or_gt_of_ne hxy with h3 | h3
      · rw [if_pos (by omega)]
        exact ⟨z, x, y, rfl, h2, h3, fun u => by omega, fun t => by rw [rev_23, rev_12]⟩
      · rw [if_neg (by omega)]
        exact ⟨z, y, x, rfl, h1, h3, fun u => by omega, fun t => by rw [rev_12, rev_23, rev_12]⟩
theorem other_ok {z : Int} (h : z = 1 ∨ z = -1) : pyIx (.dks (cD [("L", "R"), ("R", "L"), ("?", "?")])) (strD [ltr z]) = .ok (strD [oth (ltr z)]) := by
  rcases h with rfl | rfl <;> rfl
theorem with_rev_ok {n x y z : Nat} {t : Tn} (T : Tb n t) (hx : x < n) (hy : y < n) (hz : z < n) (hxy : x ≠ y) (hxz : x ≠ z) (hyz : y ≠ z) : m_with_reversed [strD (lw n t), .int x, .int y, .int z] = .ok (strD (lw n (rev t x y z))) := by
  show (c_with_reversed (strD (lw n t)) (.int x) (.int y) (.int z)).toM = _
  unfold c_with_reversed
  have hn := T.hi
  obtain ⟨a, b, c, es, h1, h2, hu, er⟩ := isort3 hxy hxz hyz
  have ha : c < n := by have := (hu c).mpr (by omega); omega
  have hl := T.tab.len
  have pm := T.tab.pm a b c h1 h2 ha
  have e1 : b1 mkLst (mlist [.ok (.int x), .ok (.int y), .ok (.int z)]) = .ok (intsD [(x : Int), y, z]) := by
    rw [c3 (m := mkLst), lst_ok (by simp)]
    rfl
  rw [e1, sorted_ints, es, bindC_ok]
  rw [un3_at (d := intsD [(a : Int), b, c]) (a := .int a) (b := .int b) (c := .int c) rfl]
  obtain ⟨hp, ep⟩ := thr_psn hn h1 h2 ha
  have hw : (lw n t)[pos a b c]? = some (ltr (t a b c)) := lw_pos hn h1 h2 ha
  rw [c3 (m := m_position), position_ok (by omega) (by omega) (by omega), bindC_ok, b2_ok, ix_strD hl hw, b2_ok, other_ok pm, bindC_ok, pre_strD hl, b2_ok, b2_ok, add_ii, show ((pos a b c : Nat) : Int) + 1 = ((pos a b c + 1 : Nat) : Int) from by omega, post_strD hl]
  have ln : (lw n t).length = (thr n).length := by unfold lw; rw [List.length_map]
  have h56 := lw_len (f := t) hn
  rw [add_strD (by rw [List.length_take]; simp; omega), b2_ok, add_strD (by rw [List.length_append, List.length_take, List.length_drop]; simp; omega), bindC_ok]
  show M.ok (strD ((lw n t).take (pos a b c) ++ [oth (ltr (t a b c))] ++ (lw n t).drop (pos a b c + 1))) = _
  rw [er, ← lw_rev hn h1 h2 ha pm, List.set_eq_take_append_cons_drop, if_pos (by omega), List.append_assoc]
  rfl
end Mir
namespace Mir
open PySem PySem.Spec L2
def p3D (a b c : Int) : D := .tup [.int a, .int b, .int c]
theorem check_pass (n a b c : Int) : m_check_passing [.int n, p3D a b c] = if chk3 n a b c = true then .ok .non else .exn ⟨1, []⟩ := by
  show (c_check_passing (.int n) (p3D a b c)).toM = _
  unfold c_check_passing
  rw [c1 (m := pyLen), show pyLen [p3D a b c] = .ok (.int 3) from rfl, b2_ok, ne_f rfl, b1_ok (f := isB), isB_bl, bindC_ok, if_neg (by decide), c2 (m := m_check_posts), show p3D a b c = .tup [.int a, .int b, .int c] from rfl, check_posts_ok]
  split <;> rfl
theorem opt_not_none {o : Option Nat} : b1 isB (b2 pyIsNot (.ok (optN o)) (.ok .non)) = .ok o.isSome := by
  cases o <;> rfl
theorem rshift_ok {n a b c : Nat} {t : Tn} (T : Tb n t) (ha : a < n) (hb : b < n) (hc : c < n) (hab : a ≠ b) (hac : a ≠ c) (hbc : b ≠ c) :
    m_Table___rshift [tabD n t, p3D a b c] = match blkO t n a b c with
      | some d => .exn ⟨4, [("observer", .int d)]⟩
      | none => .ok (tabD n (rev t a b c)) := by
  show (c_Table___rshift (tabD n t) (p3D a b c)).toM = _
  unfold c_Table___rshift
  rw [b1_ok, fld_posts, c2 (m := m_check_passing), check_pass, if_pos (chk3_nat ha hb hc hab hac hbc), bindC_ok, bindC_ok, un3_at (d := p3D a b c) (a := .int a) (b := .int b) (c := .int c) rfl, b1_ok, fld_letters, c5 (m := m_blocker), blocker_ok T ha hb hc hab hac hbc, bindC_ok, opt_not_none, bindC_ok]
  cases h : blkO t n a b c with
  | some d => rfl
  | none =>
    have U := T.rev ha hb hc hab hac hbc (canB_iff.mp (blkO_none.mp h))
    rw [show (none : Option Nat).isSome = false from rfl, if_neg (by decide), c4 (m := m_with_reversed), with_rev_ok T ha hb hc hab hac hbc, make_ok U]
    rfl
end Mir
namespace Mir
open PySem PySem.Spec L2
end Mir
namespace Mir
open PySem PySem.Spec L2
def wf (w : List Nat) : Tn := fun a b c => if w[pos a b c]? = some 76 then 1 else -1
theorem wf_pm {w : List Nat} {a b c : Nat} : wf w a b c = 1 ∨ wf w a b c = -1 := by
  unfold wf
  split
  · exact .inl rfl
  · exact .inr rfl
theorem wf_lw {n : Nat} {w : List Nat} (hn : n ≤ 8) (hl : w.length = (thr n).length) (h : ∀ x ∈ w, x = 76 ∨ x = 82) : lw n (wf w) = w := by
  unfold lw
  refine List.ext_getElem (by rw [List.length_map, hl]) fun i h1 h2 => ?_
  rw [List.length_map] at h1
  rw [List.getElem_map]
  have hx := thr_at hn h1
  generalize (thr n)[i] = x at *
  unfold wf
  rw [hx, List.getElem?_eq_getElem h2]
  rcases h w[i] (List.getElem_mem h2) with e | e
  · rw [e, if_pos rfl]
    rfl
  · rw [e, if_neg (by decide)]
    rfl
abbrev Pm (n : Nat) (f : Tn) : Prop := ∀ a b c, a < b → b < c → c < n → f a b c = 1 ∨ f a b c = -1
end Mir
namespace Mir
open PySem PySem.Spec L2
def sx (f : Tn) (t : T3) : List (List Key × D) :=
  [(key3 t.1 t.2.1 t.2.2, .int (f t.1 t.2.1 t.2.2)), (key3 t.2.1 t.2.2 t.1, .int (f t.1 t.2.1 t.2.2)), (key3 t.2.2 t.1 t.2.1, .int (f t.1 t.2.1 t.2.2)),
   (key3 t.2.1 t.1 t.2.2, .int (-f t.1 t.2.1 t.2.2)), (key3 t.1 t.2.2 t.2.1, .int (-f t.1 t.2.1 t.2.2)), (key3 t.2.2 t.2.1 t.1, .int (-f t.1 t.2.1 t.2.2))]
end Mir
namespace Mir
open PySem PySem.Spec L2
end Mir
namespace Mir
open PySem PySem.Spec L2
abbrev Pt1 (n : Nat) (t : Tn) : Prop := ∀ a b c, a < n → b < n → c < n → a ≠ b → a ≠ c → b ≠ c → t a b c = 1 ∨ t a b c = -1
def alt4 (t : Tn) (a b c d : Nat) : Bool := decide (t a b c ≠ t a b d) && (decide (t a b d ≠ t a c d) && decide (t a c d ≠ t b c d))
def bx (t : Tn) (a b c d x : Nat) : Bool := decide (x ≠ a ∧ x ≠ b ∧ x ≠ c ∧ x ≠ d) && b5 t x a b c d
def bad1 (t : Tn) (n a b c d : Nat) : Bool := alt4 t a b c d || (List.range n).any (bx t a b c d)
def bad (t : Tn) (n : Nat) : Bool := (List.range n).any fun d => (List.range d).any fun c => (List.range c).any fun b => (List.range b).any fun a => bad1 t n a b c d
theorem bad_iff {t : Tn} {n : Nat} : bad t n = true ↔ ∃ a b c d, a < b ∧ b < c ∧ c < d ∧ d < n ∧ (alt4 t a b c d = true ∨ ∃ x, x < n ∧ x ≠ a ∧ x ≠ b ∧ x ≠ c ∧ x ≠ d ∧ b5 t x a b c d = true) := by
  unfold bad bad1 bx
  simp only [List.any_eq_true, List.mem_range, Bool.or_eq_true, Bool.and_eq_true, decide_eq_true_eq]
  constructor
  · rintro ⟨d, hd, c, hc, b, hb, a, ha, h⟩
    refine ⟨a, b, c, d, ha, hb, hc, hd, h.imp id ?_⟩
    rintro ⟨x, hx, ⟨q1, q2, q3, q4⟩, q⟩
    exact ⟨x, hx, q1, q2, q3, q4, q⟩
  · rintro ⟨a, b, c, d, ha, hb, hc, hd, h⟩
    refine ⟨d, hd, c, hc, b, hb, a, ha, h.imp id ?_⟩
    rintro ⟨x, hx, q1, q2, q3, q4, q⟩
    exact ⟨x, hx, ⟨q1, q2, q3, q4⟩, q⟩
end Mir
namespace Mir
open PySem PySem.Spec L2
theorem tn_sort {f : Tn} {a b c : Nat} (h1 : a < b) (h2 : b < c) : tn f a b c = f a b c := by
  unfold tn
  rw [if_pos h1, if_pos h2]
theorem b4_alt {n a b c d : Nat} {f : Tn} (pm : Pm n f) (h1 : a < b) (h2 : b < c) (h3 : c < d) (h4 : d < n) : b4 f a b c d = alt4 (tn f) a b c d := by
  unfold b4 alt4 ltr
  rw [tn_sort h1 h2, tn_sort h1 (by omega), tn_sort (by omega : a < c) h3, tn_sort h2 h3]
  rcases pm a b c (by omega) (by omega) (by omega) with e1 | e1 <;> rcases pm a b d (by omega) (by omega) (by omega) with e2 | e2 <;> rcases pm a c d (by omega) (by omega) (by omega) with e3 | e3 <;> rcases pm b c d (by omega) (by omega) (by omega) with e4 | e4 <;> simp [e1, e2, e3, e4]
theorem five_sort {n x a b c d : Nat} (h1 : a < b) (h2 : b < c) (h3 : c < d) (h4 : d < n) (hx : x < n) (x1 : x ≠ a) (x2 : x ≠ b) (x3 : x ≠ c) (x4 : x ≠ d) : ∃ v w p q r, v < w ∧ w < p ∧ p < q ∧ q < r ∧ r < n ∧ x ∈ [v, w, p, q, r] ∧ [v, w, p, q, r].filter (fun y => decide (y ≠ x)) = [a, b, c, d] := by
  have y1 := Ne.symm x1
  have y2 := Ne.symm x2
  have y3 := Ne.symm x3
  have y4 := Ne.symm x4
  by_cases k1 : x < a
  · exact ⟨x, a, b, c, d, k1, h1, h2, h3, h4, by simp, by simp [List.filter_cons, y1, y2, y3, y4]⟩
  by_cases k2 : x < b
  · exact ⟨a, x, b, c, d, by omega, k2, h2, h3, h4, by simp, by simp [List.filter_cons, y1, y2, y3, y4]⟩
  by_cases k3 : x < c
  · exact ⟨a, b, x, c, d, h1, by omega, k3, h3, h4, by simp, by simp [List.filter_cons, y1, y2, y3, y4]⟩
  by_cases k4 : x < d
  · exact ⟨a, b, c, x, d, h1, h2, by omega, k4, h4, by simp, by simp [List.filter_cons, y1, y2, y3, y4]⟩
  · exact ⟨a, b, c, d, x, h1, h2, h3, by omega, hx, by simp, by simp [List.filter_cons, y1, y2, y3, y4]⟩
theorem brch_bad {n : Nat} {f : Tn} (pm : Pm n f) : brch f n = none ↔ bad (tn f) n = false := by
  constructor
  · intro h
    cases hb : bad (tn f) n with
    | false => rfl
    | true =>
      exfalso
      obtain ⟨a, b, c, d, h1, h2, h3, h4, k⟩ := bad_iff.mp hb
      unfold brch at h
      rw [List.findSome?_eq_none_iff] at h
      rcases k with k | ⟨x, hx, x1, x2, x3, x4, k⟩
      · have q := h (b, c, d) (mem_thr.mpr ⟨h2, h3, h4⟩)
        unfold lbr at q
        rw [Option.or_eq_none_iff, List.findSome?_eq_none_iff] at q
        have q := q.1 a (List.mem_range.mpr h1)
        unfold g4 at q
        dsimp only at q
        rw [b4_alt pm h1 h2 h3 h4, k, if_pos rfl] at q
        cases q
      · obtain ⟨v, w, p, q, r, g1, g2, g3, g4', g5', gx, gf⟩ := five_sort h1 h2 h3 h4 hx x1 x2 x3 x4
        have z := h (p, q, r) (mem_thr.mpr ⟨g3, g4', g5'⟩)
        unfold lbr at z
        rw [Option.or_eq_none_iff, List.findSome?_eq_none_iff, List.findSome?_eq_none_iff] at z
        have z := z.2 w (List.mem_range.mpr g2)
        rw [List.findSome?_eq_none_iff] at z
        have z := z v (List.mem_range.mpr g1)
        rw [List.findSome?_eq_none_iff] at z
        have z := z x gx
        unfold g5 at z
        dsimp only at z
        rw [gf] at z
        dsimp only at z
        rw [k, if_pos rfl] at z
        cases z
  · intro h
    have nb : ¬ (bad (tn f) n = true) := by rw [h]; decide
    rw [bad_iff] at nb
    refine brch_none (fun w a b c h1 h2 h3 h4 => ?_) (fun x p q r s h1 h2 h3 h4 hx x1 x2 x3 x4 => ?_)
    · rw [b4_alt pm h1 h2 h3 h4]
      cases e : alt4 (tn f) w a b c with
      | false => rfl
      | true => exact absurd ⟨w, a, b, c, h1, h2, h3, h4, .inl e⟩ nb
    · cases e : b5 (tn f) x p q r s with
      | false => rfl
      | true => exact absurd ⟨p, q, r, s, h1, h2, h3, h4, .inr ⟨x, hx, x1, x2, x3, x4, e⟩⟩ nb
end Mir
namespace Mir
open PySem PySem.Spec L2
end Mir
namespace Mir
open PySem PySem.Spec L2
def c_all_letters (p_posts : D) : Ctl Unit Unit := M.bindC (b1 mkLst (mlist [.ok (.str "")])) () fun v1_rows => M.bindC (b1 pyItems (b1 m_threes (mlist [.ok p_posts]))) () fun v12_ds => (forC (X := Unit) (S := D) (fun v3_t (v2_j : D) => un3 .stk v3_t fun v4_a v5_b v6_c => M.bindC (lcM (b1 pyItems (.ok v2_j)) (fun v8_row => inM (.ok true) (b1 pyItems (.ok (.str "LR"))) (fun v9_letter => elM (.ok true) (b2 pyAdd (.ok v8_row) (.ok v9_letter))))) () fun v7_longer => M.bindC (lcM (b1 pyItems (.ok v7_longer)) (fun v11_row => elM (b1 isB (b2 pyIs (b1 m_last_breach (mlist [.ok v11_row, .ok v4_a, .ok v5_b, .ok v6_c])) (.ok .non))) (.ok v11_row))) () fun v10_rows => .nx v10_rows) v12_ds v1_rows).bind fun (v2_j : D) => M.bindC (.ok v2_j) () Ctl.ret
def m_all_letters : List D → M D := ar1 c_all_letters
def c_end_of (p_letters p_posts p_row : D) : Ctl Unit Unit := M.bindC (b1 pyItems (.ok p_row)) () fun v7_ds => (forC (X := Unit) (S := D) (fun v2_t (v1_j : D) => un3 .stk v2_t fun v3_a v4_b v5_c => M.bindC (b1 isB (b2 pyIsNot (b1 m_blocker (mlist [.ok v1_j, .ok p_posts, .ok v3_a, .ok v4_b, .ok v5_c])) (.ok .non))) () fun c => if c = true then (M.bindC (.ok .non) () Ctl.ret) else M.bindC (b1 m_with_reversed (mlist [.ok v1_j, .ok v3_a, .ok v4_b, .ok v5_c])) () fun v6_letters => .nx v6_letters) v7_ds p_letters).bind fun (v1_j : D) => M.bindC (.ok v1_j) () Ctl.ret
def m_end_of : List D → M D := ar3 c_end_of
def c_parted (p_posts p_first p_second : D) : Ctl Unit Unit := M.bindC (notM (b1 isB (chM pyLe pyLe (.ok (.int 3)) (.ok p_posts) (.ok (.int 5))))) () fun c => if c = true then (.exn ⟨1, []⟩ ()) else M.bindC (b1 pyItems (b1 mkLst (starM (.ok p_first) (starM (.ok p_second) (.ok []))))) () fun v6_ds => (forC (X := Unit) (S := Unit) (fun v2_passing (v1_j : Unit) => M.bindC (b1 m_check_passing (mlist [.ok p_posts, .ok v2_passing])) () fun _ => .nx ()) v6_ds ()).bind fun (v1_j : Unit) => M.bindC (b1 pyItems (b1 m_all_letters (mlist [.ok p_posts]))) () fun v5_ds => (forC (X := Unit) (S := Unit) (fun v4_letters (v3_j : Unit) => M.bindC (b1 isB (b2 pyNe (b1 m_end_of (mlist [.ok v4_letters, .ok p_posts, .ok p_first])) (b1 m_end_of (mlist [.ok v4_letters, .ok p_posts, .ok p_second])))) () fun c => if c = true then (M.bindC (b1 (mkO 1 m_Table___init) (mlist [.ok v4_letters])) () Ctl.ret) else .nx ()) v5_ds ()).bind fun (v3_j : Unit) => M.bindC (.ok .non) () Ctl.ret
def m_parted : List D → M D := ar3 c_parted
end Mir
namespace Mir
open PySem PySem.Spec L2
end Mir
namespace Mir
open PySem PySem.Spec L2
mutual
def noOb (c : Nat) : D → Bool
  | .tup xs => noObs c xs
  | .lst xs => noObs c xs
  | .dct kvs => noObT c kvs
  | .dks kvs => noObK c kvs
  | .obj k fs => !(k == c) && noObF c fs
  | .slf _ _ _ => false
  | _ => true
def noObs (c : Nat) : List D → Bool
  | [] => true
  | d :: ds => noOb c d && noObs c ds
def noObT (c : Nat) : List (List Key × D) → Bool
  | [] => true
  | (_, d) :: ds => noOb c d && noObT c ds
def noObK (c : Nat) : List (Key × D) → Bool
  | [] => true
  | (_, d) :: ds => noOb c d && noObK c ds
def noObF (c : Nat) : List (Str × D) → Bool
  | [] => true
  | (_, d) :: ds => noOb c d && noObF c ds
end
theorem noT_map {c : Nat} : ∀ kvs : List (List Key × D), noObT c kvs = noObs c (kvs.map (·.2))
  | [] => rfl
  | (_, d) :: ds => by unfold noObT; rw [noT_map ds]; rfl
theorem noK_map {c : Nat} : ∀ kvs : List (Key × D), noObK c kvs = noObs c (kvs.map (·.2))
  | [] => rfl
  | (_, d) :: ds => by unfold noObK; rw [noK_map ds]; rfl
theorem noF_map {c : Nat} : ∀ kvs : List (Str × D), noObF c kvs = noObs c (kvs.map (·.2))
  | [] => rfl
  | (_, d) :: ds => by unfold noObF; rw [noF_map ds]; rfl
def minus2 (S : Hp) (p q : Addr) : Hp := fun a => if a = p ∨ a = q then none else S a
theorem minus2_ne {S : Hp} {p q a : Addr} (h1 : a ≠ p) (h2 : a ≠ q) : minus2 S p q a = S a := if_neg (by rintro (h | h) <;> contradiction)
section
variable {G : GG} {S : Hp} {p dx : Addr} {c : Nat} {ws : List (Str × V)}
theorem off2 (hp : S p = some (.ins (G.ca c) dx ws)) (hx : S dx = some (HO.own p)) {a : Addr} {u : HO} (h : S a = some u) (n1 : ∀ C d vs, u ≠ .ins C d vs) (n2 : ∀ b, u ≠ .own b) : minus2 S p dx a = some u := by
  rw [minus2_ne (fun e => by subst e; rw [hp] at h; exact n1 _ _ _ (Option.some.inj h).symm) (fun e => by subst e; rw [hx] at h; exact n2 _ (Option.some.inj h).symm)]
  exact h
theorem off2_rd (hp : S p = some (.ins (G.ca c) dx ws)) (hx : S dx = some (HO.own p)) {a : Addr} {u : HO} (h : Rd S a u) (n1 : ∀ C d vs, u ≠ .ins C d vs) (n2 : ∀ b, u ≠ .own b) : Rd (minus2 S p dx) a u := by
  rcases h with h | ⟨o, h⟩
  · exact .inl (off2 hp hx h n1 n2)
  · exact .inr ⟨o, off2 hp hx h (fun _ _ _ z => by cases z) (fun _ z => by cases z)⟩
mutual
theorem rep_noO (hca : ∀ k, G.ca k = G.ca c → k = c) (hp : S p = some (.ins (G.ca c) dx ws)) (hx : S dx = some (HO.own p)) : ∀ {v : V} {d : D}, noOb c d = true → Rep G S v d → Rep G (minus2 S p dx) v d
  | _, _, _, .non => .non
  | _, _, _, .bl b => .bl b
  | _, _, _, .int i => .int i
  | _, _, _, .str x => .str x
  | _, _, _, .adr a => .adr a
  | _, _, _, .kt k r => .kt k r
  | _, _, n, .tup h r => .tup (off2 hp hx h (fun _ _ _ z => by cases z) (fun _ z => by cases z)) (reps_noO hca hp hx (by simpa [noOb] using n) r)
  | _, _, n, .lst h r => .lst (off2 hp hx h (fun _ _ _ z => by cases z) (fun _ z => by cases z)) (reps_noO hca hp hx (by simpa [noOb] using n) r)
  | _, _, _, .scr h => .scr (by
      rcases h with h | h
      · exact .inl (off2_rd hp hx h (fun _ _ _ z => by cases z) (fun _ z => by cases z))
      · exact .inr h)
  | _, _, n, .dct h e r => .dct (off2_rd hp hx h (fun _ _ _ z => by cases z) (fun _ z => by cases z)) e (reps_noO hca hp hx (by rw [← noT_map]; simpa [noOb] using n) r)
  | _, _, n, .dks h e r => .dks (off2_rd hp hx h (fun _ _ _ z => by cases z) (fun _ z => by cases z)) e (reps_noO hca hp hx (by rw [← noK_map]; simpa [noOb] using n) r)
  | _, .obj k fs, n, .obj (a := a) (dx := dy) h1 h2 e r => by
    have n' : (!(k == c)) = true ∧ noObF c fs = true := by
      have : (!(k == c) && noObF c fs) = true := by simpa [noOb] using n
      exact Bool.and_eq_true _ _ ▸ this
    have kc : k ≠ c := by simpa using n'.1
    have ap : a ≠ p := fun z => by
      subst z
      rw [hp] at h1
      exact kc (hca k ((HO.ins.inj (Option.some.inj h1)).1.symm))
    have ax : a ≠ dx := fun z => by subst z; rw [hx] at h1; cases h1
    have yp : dy ≠ p := fun z => by subst z; rw [hp] at h2; cases h2
    have yx : dy ≠ dx := fun z => by
      subst z
      rw [hx] at h2
      exact ap (HO.own.inj (Option.some.inj h2)).symm
    exact .obj (by rw [minus2_ne ap ax]; exact h1) (by rw [minus2_ne yp yx]; exact h2) e (reps_noO hca hp hx (by rw [← noF_map]; exact n'.2) r)
  | _, .slf _ _ _, n, .slf _ _ _ _ => by simp [noOb] at n
theorem reps_noO (hca : ∀ k, G.ca k = G.ca c → k = c) (hp : S p = some (.ins (G.ca c) dx ws)) (hx : S dx = some (HO.own p)) : ∀ {vs : List V} {ds : List D}, noObs c ds = true → Reps G S vs ds → Reps G (minus2 S p dx) vs ds
  | _, _, _, .nil => .nil
  | _, _ :: _, n, .cons h r => by
    have n := Bool.and_eq_true _ _ ▸ (show (noOb c _ && noObs c _) = true by simpa [noObs] using n)
    exact .cons (rep_noO hca hp hx n.1 h) (reps_noO hca hp hx n.2 r)
end
end
def plus2 (S : Hp) (p dx : Addr) (u : HO) : Hp := upd (upd S p u) dx (HO.own p)
structure Shr (G : GG) (H0 : Hp) (σ : L2.St) (S H : Hp) (Γ : Gam) (i c : Nat) (fs : List (Str × D)) (p dx : Addr) (ws : List (Str × V)) : Prop where
  at_ : σ[i]? = some (some (.ref p))
  hp : H p = some (.ins (G.ca c) dx ws)
  hx : H dx = some (HO.own p)
  sp : S p = none
  sx : S dx = none
  ne : dx ≠ p
  hold : Holds G H0 σ (plus2 S p dx (.ins (G.ca c) dx ws)) H (Γ.set i (Sl.val (.obj c fs)))
section
variable {F : Fm} {Γ : Gam} {e : Expr} {m : M D} {mt : M Bool} {c : Nat} {fs : List (Str × D)}
end
end Mir
namespace Mir
open PySem PySem.Spec L2
section
variable {F : Fm} {Γ : Gam} {e : Expr} {es : List Expr} {pos : Pos}
end
end Mir
namespace Mir
open PySem PySem.Spec L2
open PyProof.Rows (envOfC)
end Mir
namespace Mir
open PySem PySem.Spec L2
open PyProof.Rows (envOfC)
section
variable {F : Fm} {Γ : Gam} {X S : Type} {fx : X → Gam} {fs : S → Gam} {x0 : X} {e : Expr} {m : M D} {rest : List Stmt}
end
end Mir
namespace Mir
open PySem PySem.Spec L2
open PyProof.Rows (envOfC)
def AnsO (G : GG) (S : Hp) (p : Addr) (v : V) : Option D → Prop
  | some d => Rep G S v d
  | none => v = .ref p
def PoO (G : GG) (E : XK) (S H : Hp) (p : Addr) (c : Nat) (fs : FsD) (Q : V → Hp → Prop) : M (FsD × Option D) → Prop
  | .stk => False
  | .exn e => ∀ cls dd S' H', Grow S H S' H' → S' p = none → OwnAt G H S' H' p (.obj c fs) → RepX G S' cls dd e → E cls dd H'
  | .ok r => ∀ S' H' v, Grow S H S' H' → S' p = none → OwnAt G H S' H' p (.obj c r.1) → AnsO G S' p v r.2 → Q v H'
def spO (G : GG) (c : Nat) (m : FsD → List D → M (FsD × Option D)) : Sp := fun vs H Q E => ∃ (S : Hp) (p dx : Addr) (ws : List (Str × V)) (fs : FsD) (us : List V) (ds : List D), vs = V.ref p :: us ∧ Ex S H ∧ S p = none ∧ S dx = none ∧ H p = some (.ins (G.ca c) dx ws) ∧ H dx = some (.own p) ∧ ws.map (·.1) = fs.map (·.1) ∧ Reps G S (ws.map (·.2)) (fs.map (·.2)) ∧ Reps G S us ds ∧ PoO G E S (minus2 H p dx) p c fs Q (m fs ds)
end Mir
namespace Mir
open PySem PySem.Spec L2
open PyProof.Rows (envOfC)
def WO (c : Nat) (w : FsD → D) : Prop := w = D.obj c ∨ ∃ a, w = D.slf a c
theorem WO.at {G : GG} {H0 S H : Hp} {p : Addr} {c : Nat} {w : FsD → D} {fs : FsD} (hw : WO c w) (o : OwnAt G H0 S H p (w fs)) : OwnAt G H0 S H p (.obj c fs) := by
  rcases hw with rfl | ⟨a, rfl⟩
  · exact o
  · exact o.2
def EvCh (F : Fm) (te : TE) (Γ : Gam) (i : Nat) (w : FsD → D) (m : M (FsD × D)) : Prop := ∀ S0 H0 σ S H Q, Grow S0 H0 S H → Holds F.G H0 σ S H Γ → (match m with
  | .stk => False
  | .exn e => ∀ cls dd S' H', Grow S0 H0 S' H' → Holds F.G H0 σ S' H' Γ → RepX F.G S' cls dd e → F.W cls dd σ H'
  | .ok r => ∀ S' H' v, Grow S0 H0 S' H' → Holds F.G H0 σ S' H' (Γ.set i (Sl.own (w r.1))) → Rep F.G S' v r.2 → Q v H') → te σ H Q
end Mir
namespace Mir
open PySem PySem.Spec L2
open PyProof.Rows (envOfC)
structure MetO (G : GG) (k c : Nat) (name : Str) (m : FsD → List D → M (FsD × Option D)) : Prop where
  ex : ∃ f j, j ≤ k ∧ FnR G.P G.w G.K G.mg G.base (L2N.CX G.P G.w) j f (spO G c m) ∧ Meth G.K (G.ca c) name f ∧ Cls G.K (G.ca c)
theorem MetO.mono {G : GG} {j k c : Nat} {x : Str} {m : FsD → List D → M (FsD × Option D)} (h : MetO G j c x m) (l : j ≤ k) : MetO G k c x m := by
  obtain ⟨f, i, hi, r⟩ := h.ex
  exact ⟨f, i, Nat.le_trans hi l, r⟩
section
variable {F : Fm} {Γ : Gam} {e : Expr} {es : List Expr} {pos apos p3 : Pos} {ml : M (List D)} {i c : Nat} {w : FsD → D} {fs : FsD} {m : FsD → List D → M (FsD × Option D)} {name n : Str}
end
end Mir
namespace Mir
open PySem PySem.Spec L2
section
variable {F : Fm} {Γ : Gam} {S0 H0 : Hp} {Dn : Ends} {X S : Type} {fx : X → Gam} {fs : S → Gam} {x0 : X} {σ : L2.St} {e : Expr} {pos : Pos} {rest : List Stmt} {i : Nat} {w : FsD → D} {m : M (FsD × D)}
theorem EvCh.bind {t : TE} {k : FsD × D → Ctl X S} {Si Hi : Hp} {Q : VK} (h : EvCh F t Γ i w m) (g : Grow S0 H0 Si Hi) (hh : Holds F.G H0 σ Si Hi Γ) (wk : Weak Γ (fx x0)) (po : OPo F S0 H0 Dn ((m.bindC x0 k).out fx fs))
    (hq : ∀ r S1 H1 v, Grow S0 H0 S1 H1 → Holds F.G H0 σ S1 H1 (Γ.set i (Sl.own (w r.1))) → Rep F.G S1 v r.2 → OPo F S0 H0 Dn ((k r).out fx fs) → Q v H1) : t σ Hi Q := by
  refine h S0 H0 σ Si Hi Q g hh ?_
  cases m with
  | stk => exact po
  | exn x => exact fun cls dd S' H' g' hh' rx => po cls dd σ S' H' g' ⟨Γ, hh', wk⟩ rx
  | ok r => exact fun S' H' v g' hh' rv => hq r S' H' v g' hh' rv po
end
end Mir
namespace Mir
open PySem PySem.Spec L2
section
variable {F : Fm} {Γ : Gam} {a b e : Expr} {pos : Pos} {i : Nat} {w : FsD → D} {m : M (FsD × D)} {mt : M (FsD × Bool)}
section
variable {X S : Type} {fx : X → Gam} {fs : S → Gam} {x0 : X} {A rest : List Stmt}
end
end
end Mir
namespace Mir
open PySem PySem.Spec L2
structure IaddK (G : GG) (k c : Nat) (m : FsD → List D → M (FsD × Option D)) : Prop where
  ex : ∃ f j, j ≤ k ∧ FnR G.P G.w G.K G.mg G.base (L2N.CX G.P G.w) j f (spO G c m) ∧ PySem.W.findIn G.K (.ref (G.ca c)) "__iadd__" = some (some (.ref f)) ∧ PySem.W.isFn G.K (.ref f) = true ∧ PySem.W.selfFirst G.K (G.ca c) = true
section
variable {F : Fm} {Γ : Gam} {X S : Type} {fx : X → Gam} {fs : S → Gam} {x0 : X} {e : Expr} {me : M D} {rest : List Stmt} {c : Nat} {m : FsD → List D → M (FsD × Option D)} {pos : Pos}
end
end Mir
namespace Mir
open PySem PySem.Spec L2
structure SetiK (G : GG) (k c : Nat) (m : FsD → List D → M (FsD × Option D)) : Prop where
  ex : ∃ f j, j ≤ k ∧ FnR G.P G.w G.K G.mg G.base (L2N.CX G.P G.w) j f (spO G c m) ∧ PySem.W.findIn G.K (.ref (G.ca c)) "__setitem__" = some (some (.ref f)) ∧ PySem.W.isFn G.K (.ref f) = true ∧ PySem.W.noSeq G.K (G.ca c) = true
section
variable {F : Fm} {Γ : Gam} {X S : Type} {fx : X → Gam} {fs : S → Gam} {x0 : X} {ki vi : Expr} {mv mk : M D} {rest : List Stmt} {c : Nat} {m : FsD → List D → M (FsD × Option D)} {pos p p2 : Pos}
end
end Mir
namespace Mir
open PySem PySem.Spec L2
section
variable {F : Fm} {Γ : Gam} {a b e : Expr} {pos : Pos} {i : Nat} {w : FsD → D} {m : M (FsD × Bool)}
end
end Mir
namespace Mir
open PySem PySem.Spec L2
structure PropK (G : GG) (k c : Nat) (f : Str) (m : List D → M D) : Prop where
  ex : ∃ g fd ps p j, j + 1 ≤ k ∧ FnOk G.P G.w G.K G.mg G.base (L2N.CX G.P G.w) j g fd ps (spM G m) ∧ PropOf G.K (G.ca c) f p g ∧ Cls G.K (G.ca c) ∧ Binds G.K fd ps []
section
variable {F : Fm} {Γ : Gam} {e : Expr} {me : M D} {c : Nat} {f : Str} {m : List D → M D} {pos : Pos}
end
end Mir
namespace Mir
open PySem PySem.Spec L2
section
variable {F : Fm} {Γ : Gam} {pos apos p3 : Pos} {i c : Nat} {w : FsD → D} {fs : FsD} {m : FsD → List D → M (FsD × Option D)} {name n : Str}
end
end Mir
namespace Mir
open PySem PySem.Spec L2
structure MetOK (G : GG) (lev c : Nat) (name kw : Str) (m : FsD → List D → M (FsD × Option D)) : Prop where
  ex : ∃ f fd ps j, j ≤ lev ∧ FnOk G.P G.w G.K G.mg G.base (L2N.CX G.P G.w) j f fd ps (spO G c m) ∧ Meth G.K (G.ca c) name f ∧ Cls G.K (G.ca c) ∧ KBn G.K fd ps 1 [kw] (fun us ws => us ++ ws) (fun vs zs => vs ++ zs) ∧ ps.length = 2
section
variable {X : Cx} {CX : CXT} {pins : List (Addr × Obj)} {σ : L2.St} {H : Hp} {s : Shared} {n k : Nat} {f : Addr} {fd : FuncData} {ps ks : List Str} {sp : Sp} {E : XK}
end
section
variable {F : Fm} {Γ : Gam} {e : Expr} {me : M D} {pos apos p3 kp : Pos} {i c : Nat} {w : FsD → D} {fs : FsD} {m : FsD → List D → M (FsD × Option D)} {name n kw : Str}
end
end Mir
namespace Mir
open PySem PySem.Spec L2
open PyProof.Rows (envOfC)
theorem PoO.step {G : GG} {E : XK} {S H S1 H1 : Hp} {p : Addr} {c : Nat} {fs : FsD} {Q : VK} {m : M (FsD × Option D)} (h : PoO G E S H p c fs Q m) (g : Grow S H S1 H1) : PoO G E S1 H1 p c fs Q m := by
  have back : ∀ {S' H' : Hp} {f : FsD}, OwnAt G H1 S' H' p (.obj c f) → OwnAt G H S' H' p (.obj c f) := by
    rintro S' H' f ⟨dx, vs, k1, k2, k3, k4, k5, k6⟩
    exact ⟨dx, vs, k1, k2, k3, g.h.free k4, k5, k6⟩
  cases m with
  | stk => exact h
  | exn e => exact fun cls dd S' H' g' sp o rx => h cls dd S' H' (g.trans g') sp (back o) rx
  | ok r => exact fun S' H' v g' sp o a => h S' H' v (g.trans g') sp (back o) a
end Mir
set_option maxHeartbeats 1000000
namespace Mir
open PySem PySem.Spec L2
open PyProof.Rows (envOfC)
structure BsD (G : GG) (S1 H1 : Hp) (L : Addr) (acc : List (Key × D)) (S H : Hp) : Prop where
  grow : Grow S1 H1 S H
  at_ : ∃ ks, H L = some (.dK ks) ∧ ks.map (·.1) = acc.map (·.1) ∧ Reps G S (ks.map (·.2)) (acc.map (·.2))
  non : S L = none
section
variable {G : GG} {S1 H1 S H : Hp} {L : Addr} {acc : List (Key × D)}
theorem BsD.step {S' H' : Hp} (b : BsD G S1 H1 L acc S H) (g : Grow S H S' H') : BsD G S1 H1 L acc S' H' := by
  obtain ⟨vs, h, n, r⟩ := b.at_
  exact ⟨b.grow.trans g, ⟨vs, g.h _ _ h, n, r.mono g.s⟩, g.sep L ⟨_, h, fun _ z => by cases z⟩ b.non⟩
theorem BsD.done (b : BsD G S1 H1 L acc S H) (hL : H1 L = none) : ∃ S', Grow S1 H1 S' H ∧ Rep G S' (.ref L) (.dks acc) := by
  obtain ⟨vs, h, n, r⟩ := b.at_
  refine ⟨upd S L (.dK vs), ⟨b.grow.s.trans (ex_upd b.non), b.grow.h, fun a u q => ?_, fun p h1 h2 => ?_⟩, .dks (.inl upd_same) n (r.mono (ex_upd b.non))⟩
  · by_cases z : a = L
    · subst z; rw [upd_same] at q; rw [h]; exact q
    · rw [upd_ne z] at q; exact b.grow.sub a u q
  · rw [upd_ne (fun z => by subst z; exact h1.ne hL)]
    exact b.grow.sep p h1 h2
end
section
variable {F : Fm} {Γ : Gam} {scope : Scope} {own : List (Str × Nat)} {V L : List Bool} {kd : List (Str × NameKind)} {kx vx tg iter : Expr} {ifs : List Expr} {pos : Pos} {mi : M (List D)} {f : D → M (Option (Key × D))} {tf : D → Gam → Option Gam}
end
end Mir
set_option maxHeartbeats 1000000
namespace Mir
open PySem PySem.Spec L2
open PyProof.Rows (envOfC)
section
variable {F : Fm} {Γ : Gam} {scope : Scope} {own : List (Str × Nat)} {V L : List Bool} {kd : List (Str × NameKind)} {elt tg : Expr} {ifs : List Expr} {pos : Pos} {f : D → M (List D)} {tf : D → Gam → Option Gam}
end
end Mir
namespace Mir
open PySem PySem.Spec L2
open PyProof.Rows (envOfC)
def LitO (it l : Addr) : HO := .ext fun h => h.IsListIter it l 0
def spItL (G : GG) (c : Nat) (f : Str) : Sp := fun vs H Q _ => ∃ a dx fs l xs, vs = [.ref a] ∧ H a = some (.ins (G.ca c) dx fs) ∧ fs.lookup f = some (.ref l) ∧ H l = some (.lst xs) ∧ ∀ it, H it = none → (∀ b u, H b = some u → b < it) → Q (.ref it) (upd H it (LitO it l))
section
variable {X : Cx} {pins : List (Addr × Obj)} {σ : L2.St} {H : Hp} {s : Shared} {G : GG} {c n : Nat} {f : Str} {fi a q it : Addr} {fdI : FuncData} {psI : List Str}
end
structure ItKL (G : GG) (k c : Nat) (f : Str) : Prop where
  ex : ∃ fi fd ps j, j + 2 ≤ k ∧ FnOk G.P G.w G.K G.mg G.base (L2N.CX G.P G.w) j fi fd ps (spItL G c f) ∧ ItS G.K (G.ca c) fi ∧ Binds G.K fd ps []
theorem ItKL.mono {G : GG} {j k c : Nat} {f : Str} (h : ItKL G j c f) (l : j ≤ k) : ItKL G k c f := by
  obtain ⟨fi, fd, ps, i, hi, r⟩ := h.ex
  exact ⟨fi, fd, ps, i, Nat.le_trans hi l, r⟩
end Mir
namespace Mir
open PySem PySem.Spec L2
open PyProof.Rows (envOfC)
theorem PropK.mono {G : GG} {j k c : Nat} {f : Str} {m : List D → M D} (h : PropK G j c f m) (l : j ≤ k) : PropK G k c f m := by
  obtain ⟨g, fd, ps, p, i, hi, r⟩ := h.ex
  exact ⟨g, fd, ps, p, i, Nat.le_trans hi l, r⟩
section
variable {F : Fm} {Γ : Gam} {o : Expr} {mo : M D} {pos apos : Pos}
end
end Mir
set_option maxHeartbeats 1000000
namespace L2
open PySem PySem.Spec
section
variable {X : Cx}
end
end L2
namespace Mir
open PySem PySem.Spec L2
open PyProof.Rows (envOfC)
section
variable {F : Fm} {Γ : Gam} {scope : Scope} {own : List (Str × Nat)} {V L : List Bool} {kd : List (Str × NameKind)} {kx vx tg iter : Expr} {ifs : List Expr} {pos : Pos} {mi : M (List D)} {f : D → M (Option (Key × D))} {tf : D → Gam → Option Gam}
end
end Mir
set_option maxHeartbeats 1000000
namespace Mir
open PySem PySem.Spec L2
open PyProof.Rows (envOfC AllBare)
theorem bm_nox {F : Fm} {sts : List Stmt} {Γ : Gam} {X S : Type} {fx : X → Gam} {fs : S → Gam} {c : Ctl X S} (h : BM F sts Γ (c.out fx fs)) : BM F sts Γ (c.nox.out fx fs) := by
  obtain ⟨t, p, d⟩ := h
  refine ⟨t, p, fun S0 H0 Dn σ S H g hh po => d S0 H0 Dn σ S H g hh ?_⟩
  cases c with
  | exn e x => exact False.elim po
  | _ => exact po
def arG2 (f : D → D → (Unit → GR) → GR) : List D → GR
  | [a, b] => f a b fun _ => .don [] none
  | _ => .stk
theorem arG2_len {f : D → D → (Unit → GR) → GR} {p q : Str} (ds : List D) (h : arG2 f ds ≠ .stk) : ds.length = [p, q].length := by
  match ds, h with
  | [a, b], _ => rfl
  | [], h => exact absurd rfl h
  | [_], h => exact absurd rfl h
  | _ :: _ :: _ :: _, h => exact absurd rfl h
section
variable {G : GG} {D : GD G} {J : Type} {rest : List Stmt} {Γ : Gam} {fj : J → Gam} {pos : Pos}
end
section
variable {F : Fm} {Γ : Gam} {X Y S J : Type} {fx : X → Gam} {fy : Y → Gam} {fs : S → Gam} {fj : J → Gam} {x0 : X} {pos : Pos} {rest body suite : List Stmt} {b₀ : Stmt}
end
end Mir
namespace Mir
open PySem PySem.Spec L2
end Mir
set_option maxHeartbeats 1000000
namespace Mir
open PySem PySem.Spec L2
open PyProof.Rows (envOfC)
section
variable {F : Fm} {Γ : Gam} {a b : Expr} {ma mb : M D} {pos p1 : Pos} {rest : List Stmt} {X S : Type} {fx : X → Gam} {fs : S → Gam} {x0 : X}
end
end Mir
set_option maxHeartbeats 1000000
namespace Mir
open PySem PySem.Spec L2
open PyProof.Rows (envOfC)
section
variable {F : Fm} {Γ : Gam} {X S : Type} {fx : X → Gam} {fs : S → Gam} {x0 : X} {e : Expr} {m : M D} {rest : List Stmt}
end
end Mir
namespace Mir
open PySem PySem.Spec L2
end Mir
set_option maxHeartbeats 1000000
namespace L2
open PySem PySem.Spec PyProof.Rows
section
variable {X : Cx}
end
end L2
namespace Mir
open PySem PySem.Spec L2
open PyProof.Rows (envOfC ltCps_eq sortedS risingS)
section
variable {F : Fm} {Γ : Gam} {e : Expr} {es : List Expr} {pos : Pos}
end
end Mir
namespace Mir
open PySem PySem.Spec L2
end Mir
namespace Mir
open PySem PySem.Spec L2
def g_walk (p_table p_row : D) : (Unit → GR) → GR := (fun v1_k => Ctl.gr (M.bindC (b1 pyItems (.ok p_row)) () fun v4_ds => (forC (X := Unit) (S := Unit) (fun v3_passing (v2_j : Unit) => M.bindC (b1 m_check_passing (mlist [b1 (pyFld 1 "posts") (.ok p_table), .ok v3_passing])) () fun _ => .nx ()) v4_ds ()).bind fun (v2_j : Unit) => .nx () : Ctl Unit Unit) fun (v5_j : Unit) => (fun v6_k => M.gr (.ok p_table) fun v7_y => GR.yld v7_y ((fun v8_k => M.gr (b1 pyItems (.ok p_row)) fun v17_ds => forGR (J := D) (fun v10_passing (v9_j : D) => (fun v11_k => Ctl.gr (M.bindC (b2 (shrO 1 m_Table___rshift) (.ok v9_j) (.ok v10_passing)) () fun v12_table => .nx v12_table : Ctl Unit D) fun (v13_j : D) => (fun v14_k => M.gr (.ok v13_j) fun v15_y => GR.yld v15_y ((fun v16_k => v16_k v13_j) v14_k)) v11_k)) v17_ds p_table fun (v9_j : D) => (fun v18_k => v18_k ()) v8_k) v6_k)) v1_k)
def m_walk : List D → GR := arG2 g_walk
end Mir
namespace Mir
open PySem PySem.Spec L2
end Mir
namespace Mir
open PySem PySem.Spec L2
def words : Nat → List (List Nat)
  | 0 => [[]]
  | k + 1 => (words k).flatMap fun w => [w ++ [76], w ++ [82]]
theorem words_len : ∀ k, (words k).length = 2 ^ k
  | 0 => rfl
  | k + 1 => by
    show ((words k).flatMap fun w => [w ++ [76], w ++ [82]]).length = _
    rw [List.length_flatMap]
    simp only [List.length_cons, List.length_nil]
    have : ∀ l : List (List Nat), (l.map fun _ => 0 + 1 + 1).sum = l.length * 2 := fun l => by
      induction l with
      | nil => rfl
      | cons x l ih => rw [List.map_cons, List.sum_cons, ih, List.length_cons]; omega
    rw [this, words_len k, Nat.pow_succ]
theorem mem_words : ∀ {k : Nat} {w : List Nat}, w ∈ words k ↔ w.length = k ∧ ∀ x ∈ w, x = 76 ∨ x = 82
  | 0, w => by
    constructor
    · intro h
      cases List.mem_singleton.mp h
      exact ⟨rfl, fun x hx => absurd hx (by simp)⟩
    · rintro ⟨h, _⟩
      rw [List.length_eq_zero_iff] at h
      subst h
      exact List.mem_singleton.mpr rfl
  | k + 1, w => by
    show w ∈ (words k).flatMap _ ↔ _
    rw [List.mem_flatMap]
    constructor
    · rintro ⟨v, hv, hw⟩
      obtain ⟨h1, h2⟩ := mem_words.mp hv
      have : ∃ x, (x = 76 ∨ x = 82) ∧ w = v ++ [x] := by
        rcases List.mem_cons.mp hw with e | hw
        · exact ⟨76, .inl rfl, e⟩
        · exact ⟨82, .inr rfl, List.mem_singleton.mp hw⟩
      obtain ⟨x, hx, rfl⟩ := this
      refine ⟨by rw [List.length_append, h1]; rfl, fun y hy => ?_⟩
      rcases List.mem_append.mp hy with hy | hy
      · exact h2 y hy
      · rw [List.mem_singleton.mp hy]; exact hx
    · rintro ⟨h1, h2⟩
      have hne : w ≠ [] := fun z => by subst z; cases h1
      refine ⟨w.dropLast, mem_words.mpr ⟨by rw [List.length_dropLast, h1]; rfl, fun x hx => h2 x (List.dropLast_subset w hx)⟩, ?_⟩
      have e := List.dropLast_concat_getLast hne
      rcases h2 _ (List.getLast_mem hne) with g | g
      · rw [g] at e
        exact List.mem_cons.mpr (.inl e.symm)
      · rw [g] at e
        exact List.mem_cons_of_mem _ (List.mem_singleton.mpr e.symm)
theorem pos_mono_dec : ((List.range 9).all fun c => (List.range c).all fun b => (List.range b).all fun a => (List.range 9).all fun z => (List.range z).all fun y => (List.range y).all fun x => !(decide (x ≤ a ∨ x = b ∨ x = c) && decide (y ≤ a ∨ y = b ∨ y = c) && decide (z ≤ a ∨ z = b ∨ z = c)) || decide (pos x y z ≤ pos a b c)) = true := by decide +kernel
theorem pos_mono {a b c x y z : Nat} (h8 : c ≤ 8) (hab : a < b) (hbc : b < c) (hxy : x < y) (hyz : y < z) (hx : x ≤ a ∨ x = b ∨ x = c) (hy : y ≤ a ∨ y = b ∨ y = c) (hz : z ≤ a ∨ z = b ∨ z = c) : pos x y z ≤ pos a b c := by
  have h := pos_mono_dec
  simp only [List.all_eq_true, List.mem_range] at h
  have h := h c (by omega) b hbc a hab z (by omega) y hyz x hxy
  rw [decide_eq_true hx, decide_eq_true hy, decide_eq_true hz] at h
  simpa using h
theorem rd_part {w v : List Nat} {a b c : Nat} (h8 : c ≤ 8) (hab : a < b) (hbc : b < c) (hl : pos a b c < w.length) (hw : ∀ x ∈ w, x = 76 ∨ x = 82) (e : ∀ i, i ≤ pos a b c → v[i]? = w[i]?) : Rd8 v (wf w) fun x => x ≤ a ∨ x = b ∨ x = c := fun x y z h1 h2 hx hy hz => by
  have hp := pos_mono h8 hab hbc h1 h2 hx hy hz
  have hi : pos x y z < w.length := by omega
  refine ⟨?_, ?_⟩
  · rw [e _ hp]
    unfold wf
    rw [List.getElem?_eq_getElem hi]
    rcases hw _ (List.getElem_mem hi) with g | g
    · rw [g, if_pos rfl]; rfl
    · rw [g, if_neg (by decide)]; rfl
  · rcases wf_pm (w := w) (a := x) (b := y) (c := z) with g | g
    · exact .inl g
    · exact .inr (.inr g)
theorem lbr_non {f : Nat → Nat → Nat → Int} {a b c : Nat} {d : D} (h : lbr f a b c = some d) : isNon d = false := by
  unfold lbr at h
  rw [Option.or_eq_some_iff] at h
  rcases h with h | ⟨_, h⟩
  · obtain ⟨u, _, hu⟩ := List.exists_of_findSome?_eq_some h
    unfold g4 at hu
    split at hu
    · cases hu; rfl
    · cases hu
  · obtain ⟨u, _, hu⟩ := List.exists_of_findSome?_eq_some h
    obtain ⟨v, _, hv⟩ := List.exists_of_findSome?_eq_some hu
    obtain ⟨x, _, hx⟩ := List.exists_of_findSome?_eq_some hv
    unfold g5 at hx
    split at hx
    · split at hx
      · cases hx; rfl
      · cases hx
    · cases hx
theorem isnon_lbr (f : Nat → Nat → Nat → Int) (a b c : Nat) : isNon (optD (lbr f a b c)) = (lbr f a b c).isNone := by
  cases h : lbr f a b c with
  | none => rfl
  | some d => exact lbr_non h
theorem lbr_take {w : List Nat} {a b c : Nat} (h8 : c ≤ 8) (hab : a < b) (hbc : b < c) (hl : pos a b c < w.length) (hm : w.length < 1000000) (hw : ∀ x ∈ w, x = 76 ∨ x = 82) : (lbr (wf (w.take (pos a b c + 1))) a b c).isNone = (lbr (wf w) a b c).isNone := by
  have e1 := last_part (rd_part (v := w) h8 hab hbc hl hw fun _ _ => rfl) hm hab hbc (by omega)
  have hl2 : pos a b c < (w.take (pos a b c + 1)).length := by rw [List.length_take]; omega
  have e2 := last_part (rd_part (v := w) h8 hab hbc hl2 (fun x hx => hw x (List.mem_of_mem_take hx)) fun i hi => (List.getElem?_take_of_lt (by omega)).symm) hm hab hbc (by omega)
  have e := M.ok.inj (e2.symm.trans e1)
  have e := congrArg isNon e
  rw [isnon_lbr, isnon_lbr] at e
  exact e
def okAt (n : Nat) (w : List Nat) (j : Nat) : Bool := match (thr n)[j]? with
  | some t => (lbr (wf w) t.1 t.2.1 t.2.2).isNone
  | none => true
def okw (n : Nat) (w : List Nat) : Bool := (List.range w.length).all fun j => okAt n (w.take (j + 1)) j
theorem okw_snoc {n : Nat} {w : List Nat} {x : Nat} : okw n (w ++ [x]) = (okw n w && okAt n (w ++ [x]) w.length) := by
  unfold okw
  rw [List.length_append, List.length_singleton, List.range_succ, List.all_append]
  congr 1
  · rw [Bool.eq_iff_iff, List.all_eq_true, List.all_eq_true]
    refine forall_congr' fun j => forall_congr' fun hj => ?_
    have hj := List.mem_range.mp hj
    rw [List.take_append_of_le_length (by omega)]
  · rw [List.all_cons, List.all_nil, Bool.and_true]
    rw [List.take_of_length_le (by rw [List.length_append, List.length_singleton]; exact Nat.le_refl _)]
def allW (n : Nat) : List (List Nat) := (words (thr n).length).filter (okw n)
theorem okw_brch {n : Nat} {w : List Nat} (h8 : n ≤ 8) (hl : w.length = (thr n).length) (hw : ∀ x ∈ w, x = 76 ∨ x = 82) : okw n w = true ↔ brch (wf w) n = none := by
  have h56 := thr_len n h8
  unfold okw brch
  rw [List.all_eq_true, List.findSome?_eq_none_iff]
  have one : ∀ j (hj : j < (thr n).length), (okAt n (w.take (j + 1)) j = true ↔ lbr (wf w) (thr n)[j].1 (thr n)[j].2.1 (thr n)[j].2.2 = none) := fun j hj => by
    have hp := thr_at h8 hj
    have hm := mem_thr.mp (List.getElem_mem hj)
    unfold okAt
    rw [List.getElem?_eq_getElem hj]
    dsimp only
    generalize (thr n)[j] = t at *
    subst hp
    rw [lbr_take (by omega) hm.1 hm.2.1 (by omega) (by omega) hw, Option.isNone_iff_eq_none]
  constructor
  · intro h t ht
    obtain ⟨j, hj, rfl⟩ := List.getElem_of_mem ht
    exact (one j hj).mp (h j (List.mem_range.mpr (by omega)))
  · intro h j hj
    have hj := List.mem_range.mp hj
    exact (one j (by omega)).mpr (h _ (List.getElem_mem _))
theorem mem_allW {n : Nat} {w : List Nat} (h8 : n ≤ 8) : w ∈ allW n ↔ w.length = (thr n).length ∧ (∀ x ∈ w, x = 76 ∨ x = 82) ∧ brch (wf w) n = none := by
  unfold allW
  rw [List.mem_filter, mem_words]
  constructor
  · rintro ⟨⟨h1, h2⟩, h3⟩
    exact ⟨h1, h2, (okw_brch h8 h1 h2).mp h3⟩
  · rintro ⟨h1, h2, h3⟩
    exact ⟨⟨h1, h2⟩, (okw_brch h8 h1 h2).mpr h3⟩
theorem sgn_LR : b1 pyItems (.ok (.str "LR")) = .ok [strD [76], strD [82]] := by
  rw [b1_ok, show (D.str "LR") = strD [76, 82] from by unfold strD; congr 1, items_strD]
  rfl
theorem lst_filter {l : List (List Nat)} {W : D → M Bool} {f : List Nat → Bool} (hl : l.length < 1000000) (h : ∀ w ∈ l, W (strD w) = .ok (f w)) : lcM (b1 pyItems (.ok (.lst (l.map strD)))) (fun v => elM (W v) (.ok v)) = .ok (.lst ((l.filter f).map strD)) := by
  refine lcM_ok rfl (compL_map strD (fun w => if f w = true then [strD w] else []) fun w hw => ?_) ?_ |>.trans ?_
  · rw [h w hw]
    cases f w
    · exact elM_f
    · exact elM_t rfl
  · have := len_flat (g := fun w => if f w = true then [strD w] else []) (k := 1) (l := l) fun x _ => by split <;> simp
    omega
  · refine congrArg (fun l => M.ok (D.lst l)) ?_
    clear h hl
    induction l with
    | nil => rfl
    | cons w l ih =>
      rw [List.flatMap_cons, ih, List.filter_cons]
      split <;> simp
theorem filter_step {n j : Nat} : ((((words j).filter (okw n)).flatMap fun w => [w ++ [76], w ++ [82]]).filter fun v => okAt n v j) = (words (j + 1)).filter (okw n) := by
  have hl : ∀ w ∈ words j, w.length = j := fun w hw => (mem_words.mp hw).1
  show _ = ((words j).flatMap fun w => [w ++ [76], w ++ [82]]).filter (okw n)
  generalize words j = l at hl
  induction l with
  | nil => rfl
  | cons w l ih =>
    have e := ih fun v hv => hl v (List.mem_cons_of_mem _ hv)
    have hw := hl w List.mem_cons_self
    rw [List.flatMap_cons, List.filter_append, ← e, List.filter_cons]
    have s1 : okw n (w ++ [76]) = (okw n w && okAt n (w ++ [76]) j) := by rw [okw_snoc, hw]
    have s2 : okw n (w ++ [82]) = (okw n w && okAt n (w ++ [82]) j) := by rw [okw_snoc, hw]
    by_cases h : okw n w = true
    · rw [if_pos h, List.flatMap_cons, List.filter_append]
      congr 1
      rw [List.filter_cons, List.filter_cons, List.filter_cons, List.filter_cons, s1, s2, h, Bool.true_and, Bool.true_and]
      rfl
    · rw [if_neg h]
      have hf : okw n w = false := by simpa using h
      rw [List.filter_cons, List.filter_cons, s1, s2, hf]
      rfl
theorem all_letters_ok {n : Nat} (h5 : n ≤ 5) : m_all_letters [.int (n : Nat)] = .ok (.lst ((allW n).map strD)) := by
  have h10 : (thr n).length ≤ 10 := by
    have : n = 0 ∨ n = 1 ∨ n = 2 ∨ n = 3 ∨ n = 4 ∨ n = 5 := by omega
    rcases this with rfl | rfl | rfl | rfl | rfl | rfl <;> decide
  have main : RetIs (c_all_letters (.int (n : Nat))) (· = .lst ((allW n).map strD)) := by
    unfold c_all_letters
    rw [show b1 mkLst (mlist [.ok (.str "")]) = .ok (.lst (((words 0).filter (okw n)).map strD)) from by rw [c1 (m := mkLst), lst_ok (by simp)]; rfl, bindC_ok, c1 (m := m_threes), threes_ok (by omega), show b1 pyItems (.ok (.lst ((thr n).map t3D))) = .ok ((thr n).map t3D) from rfl, bindC_ok]
    refine NxIs.ret (loop_nx (fun j s => s = .lst (((words j).filter (okw n)).map strD)) rfl ?_) ?_
    · rintro j d s hd rfl
      rw [List.getElem?_map] at hd
      cases hj : (thr n)[j]? with
      | none => rw [hj] at hd; cases hd
      | some t =>
        rw [hj] at hd
        cases hd
        obtain ⟨hj', ej⟩ := List.getElem?_eq_some_iff.mp hj
        have hp := thr_at (by omega) hj'
        have hm := mem_thr.mp (List.getElem_mem hj')
        rw [ej] at hp hm
        have hlen : ((words j).filter (okw n)).length ≤ 1024 := by
          refine Nat.le_trans (List.length_filter_le _ _) ?_
          rw [words_len]
          exact Nat.le_trans (Nat.pow_le_pow_right (n := 2) (by decide) (show j ≤ 10 by omega)) (by decide)
        have hwl : ∀ w ∈ (words j).filter (okw n), w.length = j ∧ ∀ x ∈ w, x = 76 ∨ x = 82 := fun w hw => mem_words.mp (List.mem_filter.mp hw).1
        rw [show t3D t = .tup [.int (t.1 : Nat), .int (t.2.1 : Nat), .int (t.2.2 : Nat)] from rfl, un3_t]
        have elong : lcM (b1 pyItems (.ok (.lst (((words j).filter (okw n)).map strD)))) (fun v8_row => inM (.ok true) (b1 pyItems (.ok (.str "LR"))) (fun v9_letter => elM (.ok true) (b2 pyAdd (.ok v8_row) (.ok v9_letter)))) = .ok (.lst ((((words j).filter (okw n)).flatMap fun w => [w ++ [76], w ++ [82]]).map strD)) := by
          refine lcM_ok rfl (compL_map strD (fun w => [strD (w ++ [76]), strD (w ++ [82])]) fun w hw => ?_) ?_ |>.trans ?_
          · have h := (hwl w hw).1
            rw [inM_t sgn_LR]
            have e76 : b2 pyAdd (.ok (strD w)) (.ok (strD [76])) = .ok (strD (w ++ [76])) := by rw [b2_ok, add_strD (by rw [h]; simp; omega)]
            have e82 : b2 pyAdd (.ok (strD w)) (.ok (strD [82])) = .ok (strD (w ++ [82])) := by rw [b2_ok, add_strD (by rw [h]; simp; omega)]
            exact compL_map (f := fun v9_letter => elM (.ok true) (b2 pyAdd (.ok (strD w)) (.ok v9_letter))) strD (fun x => [strD (w ++ x)]) (xs := [[76], [82]]) fun x hx => by
              rcases List.mem_cons.mp hx with rfl | hx
              · exact elM_t e76
              · rw [List.mem_singleton.mp hx]
                exact elM_t e82
          · have := len_flat (g := fun w : List Nat => [strD (w ++ [76]), strD (w ++ [82])]) (k := 2) (l := (words j).filter (okw n)) fun x _ => by simp
            omega
          · rw [List.map_flatMap]
            rfl
        rw [elong, bindC_ok]
        have efil := lst_filter (l := ((words j).filter (okw n)).flatMap fun w => [w ++ [76], w ++ [82]]) (W := fun v => b1 isB (b2 pyIs (b1 m_last_breach (mlist [.ok v, .ok (.int t.1), .ok (.int t.2.1), .ok (.int t.2.2)])) (.ok .non))) (f := fun v => okAt n v j) (by have := len_flat (g := fun w : List Nat => [w ++ [76], w ++ [82]]) (k := 2) (l := (words j).filter (okw n)) (fun x _ => by simp); omega) fun v hv => by
          obtain ⟨w, hw, hv⟩ := List.mem_flatMap.mp hv
          obtain ⟨hw1, hw2⟩ := hwl w hw
          have hv2 : v.length = j + 1 ∧ ∀ x ∈ v, x = 76 ∨ x = 82 := by
            have : ∃ x, (x = 76 ∨ x = 82) ∧ v = w ++ [x] := by
              rcases List.mem_cons.mp hv with e | hv
              · exact ⟨76, .inl rfl, e⟩
              · exact ⟨82, .inr rfl, List.mem_singleton.mp hv⟩
            obtain ⟨x, hx, rfl⟩ := this
            refine ⟨by rw [List.length_append, hw1]; rfl, fun y hy => ?_⟩
            rcases List.mem_append.mp hy with hy | hy
            · exact hw2 y hy
            · rw [List.mem_singleton.mp hy]; exact hx
          have e1 := last_part (w := v) (rd_part (v := v) (w := v) (a := t.1) (b := t.2.1) (c := t.2.2) (by omega) hm.1 hm.2.1 (by rw [hp]; omega) hv2.2 fun _ _ => rfl) (by omega) hm.1 hm.2.1 (by omega)
          rw [c4 (m := m_last_breach), e1]
          have k : ∀ d : D, b1 isB (b2 pyIs (.ok d) (.ok .non)) = .ok (isNon d) ∨ isNon d = false := fun d => by cases d <;> first | exact .inl rfl | exact .inr rfl
          have k2 : ∀ o : Option D, (∀ d, o = some d → isNon d = false) → b1 isB (b2 pyIs (.ok (optD o)) (.ok .non)) = .ok o.isNone := fun o ho => by
            cases o with
            | none => rfl
            | some d =>
              have := ho d rfl
              show b1 isB (b2 pyIs (.ok d) (.ok .non)) = .ok false
              cases d <;> first | rfl | (cases this)
          rw [k2 _ fun d hd => lbr_non hd]
          unfold okAt
          rw [hj]
        have efil : lcM (b1 pyItems (.ok (.lst ((((words j).filter (okw n)).flatMap fun w => [w ++ [76], w ++ [82]]).map strD)))) (fun v11_row => elM (b1 isB (b2 pyIs (b1 m_last_breach (mlist [.ok v11_row, .ok (.int t.1), .ok (.int t.2.1), .ok (.int t.2.2)])) (.ok .non))) (.ok v11_row)) = _ := efil
        rw [efil, bindC_ok]
        exact .mk (congrArg (fun l => D.lst (l.map strD)) (filter_step (n := n) (j := j)))
    · rintro s rfl
      rw [bindC_ok, List.length_map]
      exact .mk rfl
  obtain ⟨d, e, rfl⟩ := main
  show (c_all_letters (.int (n : Nat))).toM = _
  rw [e]
  rfl
end Mir
namespace Mir
open PySem PySem.Spec L2
structure OkKs (n : Nat) (ks : List T3) : Prop where
  nd : ks.Nodup
  mem : ∀ x, x ∈ ks ↔ x ∈ trp n
  len : ks.length ≤ 512
end Mir
namespace Mir
open PySem PySem.Spec L2
theorem tn_alt (f : Tn) : Alt (tn f) where
  s1 := fun a b c h1 h2 h3 => by
    unfold tn
    rcases Nat.lt_or_gt_of_ne h1 with k | k
    · rw [if_pos k, if_neg (Nat.lt_asymm k)]
      by_cases p : b < c
      · rw [if_pos p, if_pos p]
      · rw [if_neg p, if_neg p]
        by_cases q : a < c
        · rw [if_pos q, if_pos q, Int.neg_neg]
        · rw [if_neg q, if_neg q]
    · rw [if_pos k, if_neg (Nat.lt_asymm k)]
      by_cases p : a < c
      · rw [if_pos p, if_pos p, Int.neg_neg]
      · rw [if_neg p, if_neg p]
        by_cases q : b < c
        · rw [if_pos q, if_pos q]
        · rw [if_neg q, if_neg q, Int.neg_neg]
  s2 := fun a b c h1 h2 h3 => by
    unfold tn
    rcases Nat.lt_or_gt_of_ne h3 with k | k
    · rw [if_neg (Nat.lt_asymm k), if_pos k, if_neg (Nat.lt_asymm k), if_pos k]
      by_cases p : a < b
      · rw [if_pos (Nat.lt_trans p k), if_pos p, if_pos p]
      · rw [if_neg p, if_neg p, if_neg p]
        by_cases q : a < c
        · rw [if_pos q, if_pos q, Int.neg_neg]
        · rw [if_neg q, if_neg q]
    · rw [if_pos k, if_neg (Nat.lt_asymm k), if_pos k, if_neg (Nat.lt_asymm k)]
      by_cases p : a < c
      · rw [if_pos p, if_pos (Nat.lt_trans p k), if_pos p, Int.neg_neg]
      · rw [if_neg p, if_neg p, if_neg p]
        by_cases q : a < b
        · rw [if_pos q, if_pos q]
        · rw [if_neg q, if_neg q, Int.neg_neg]
theorem min2' (a b : Nat) : ∃ d, (d = a ∨ d = b) ∧ d ≤ a ∧ d ≤ b := (Nat.le_total a b).elim (fun h => ⟨a, .inl rfl, Nat.le_refl _, h⟩) fun h => ⟨b, .inr rfl, h, Nat.le_refl _⟩
theorem min3 (a b c : Nat) : ∃ d, (d = a ∨ d = b ∨ d = c) ∧ d ≤ a ∧ d ≤ b ∧ d ≤ c := by
  obtain ⟨d, hd, d1, d2⟩ := min2' b c
  obtain ⟨e, he, e1, e2⟩ := min2' a d
  exact ⟨e, he.imp_right fun (z : e = d) => z ▸ hd, e1, Nat.le_trans e2 d1, Nat.le_trans e2 d2⟩
theorem min4 (w a b c : Nat) : ∃ d, (d = w ∨ d = a ∨ d = b ∨ d = c) ∧ d ≤ w ∧ d ≤ a ∧ d ≤ b ∧ d ≤ c := by
  obtain ⟨d, hd, d1, d2, d3⟩ := min3 a b c
  obtain ⟨e, he, e1, e2⟩ := min2' w d
  exact ⟨e, he.imp_right fun (z : e = d) => z ▸ hd, e1, Nat.le_trans e2 d1, Nat.le_trans e2 d2, Nat.le_trans e2 d3⟩
theorem le4 {y p a b c d : Nat} (h : p = a ∨ p = b ∨ p = c ∨ p = d) (h1 : y ≤ a) (h2 : y ≤ b) (h3 : y ≤ c) (h4 : y ≤ d) : y ≤ p := by omega
theorem lt4 {n p a b c d : Nat} (h : p = a ∨ p = b ∨ p = c ∨ p = d) (h1 : a < n) (h2 : b < n) (h3 : c < n) (h4 : d < n) : p < n := by omega
theorem le3 {y p a b c : Nat} (h : p = a ∨ p = b ∨ p = c) (h1 : y ≤ a) (h2 : y ≤ b) (h3 : y ≤ c) : y ≤ p := by omega
theorem q4_sort {t : Tn} (al : Alt t) {n w a b c : Nat} (hw : w < n) (ha : a < n) (hb : b < n) (hc : c < n) (h1 : w ≠ a) (h2 : w ≠ b) (h3 : w ≠ c) (h4 : a ≠ b) (h5 : a ≠ c) (h6 : b ≠ c) (q : Q4 t w a b c) : ∃ p r s u, p < r ∧ r < s ∧ s < u ∧ u < n ∧ Q4 t p r s u := by
  obtain ⟨d, hd, d1, d2, d3, d4⟩ := min4 w a b c
  obtain ⟨x, y, z, q1, e1, k1, k2, k3, k4, k5, k6⟩ := q4_front al h1 h2 h3 h4 h5 h6 q hd
  have X := (e1 x).mpr (.inr (.inl rfl))
  have Y := (e1 y).mpr (.inr (.inr (.inl rfl)))
  have Z := (e1 z).mpr (.inr (.inr (.inr rfl)))
  obtain ⟨g, hg, g1, g2, g3⟩ := min3 x y z
  obtain ⟨u, v, q2, e2, m1, m2, m3, m4, m5, m6⟩ := q4_second al k1 k2 k3 k4 k5 k6 q1 hg
  have U := (e2 u).mpr (.inr (.inl rfl))
  have V := (e2 v).mpr (.inr (.inr rfl))
  have dg : d < g := Nat.lt_of_le_of_ne (le3 hg (le4 X d1 d2 d3 d4) (le4 Y d1 d2 d3 d4) (le4 Z d1 d2 d3 d4)) m1
  have gu : g < u := Nat.lt_of_le_of_ne (le3 U g1 g2 g3) m4
  have gv : g < v := Nat.lt_of_le_of_ne (le3 V g1 g2 g3) m5
  have un : u < n := by rcases U with rfl | rfl | rfl <;> first | exact lt4 X hw ha hb hc | exact lt4 Y hw ha hb hc | exact lt4 Z hw ha hb hc
  have vn : v < n := by rcases V with rfl | rfl | rfl <;> first | exact lt4 X hw ha hb hc | exact lt4 Y hw ha hb hc | exact lt4 Z hw ha hb hc
  rcases Nat.lt_or_gt_of_ne m6 with l | l
  · exact ⟨d, g, u, v, dg, gu, l, vn, q2⟩
  · exact ⟨d, g, v, u, dg, gv, l, un, q4_34 al m1 m2 m3 m4 m5 m6 q2⟩
theorem b5_sort {t : Tn} (al : Alt t) {n x a b c d : Nat} (ha : a < n) (hb : b < n) (hc : c < n) (hd : d < n) (h1 : x ≠ a) (h2 : x ≠ b) (h3 : x ≠ c) (h4 : x ≠ d) (h5 : a ≠ b) (h6 : a ≠ c) (h7 : a ≠ d) (h8 : b ≠ c) (h9 : b ≠ d) (h10 : c ≠ d) (q : brk5 t x a b c d) :
    ∃ p r s u, p < r ∧ r < s ∧ s < u ∧ u < n ∧ x ≠ p ∧ x ≠ r ∧ x ≠ s ∧ x ≠ u ∧ brk5 t x p r s u := by
  obtain ⟨y, hy, d1, d2, d3, d4⟩ := min4 a b c d
  obtain ⟨p, r, s, q1, e1, k1, k2, k3, k4, k5, k6⟩ := b5_front al h1 h2 h3 h4 h5 h6 h7 h8 h9 h10 q hy
  have P := (e1 p).mpr (.inr (.inl rfl))
  have R := (e1 r).mpr (.inr (.inr (.inl rfl)))
  have S := (e1 s).mpr (.inr (.inr (.inr rfl)))
  have xy : x ≠ y := ne4 h1 h2 h3 h4 hy
  have xp : x ≠ p := ne4 h1 h2 h3 h4 P
  have xr : x ≠ r := ne4 h1 h2 h3 h4 R
  have xs : x ≠ s := ne4 h1 h2 h3 h4 S
  obtain ⟨g, hg, g1, g2, g3⟩ := min3 p r s
  obtain ⟨u, v, q2, e2, m1, m2, m3, m4, m5, m6⟩ := b5_second al xp xr xs k1 k2 k3 k4 k5 k6 q1 hg
  have U := (e2 u).mpr (.inr (.inl rfl))
  have V := (e2 v).mpr (.inr (.inr rfl))
  have yg : y < g := Nat.lt_of_le_of_ne (le3 hg (le4 P d1 d2 d3 d4) (le4 R d1 d2 d3 d4) (le4 S d1 d2 d3 d4)) m1
  have gu : g < u := Nat.lt_of_le_of_ne (le3 U g1 g2 g3) m4
  have gv : g < v := Nat.lt_of_le_of_ne (le3 V g1 g2 g3) m5
  have xg : x ≠ g := by rcases hg with rfl | rfl | rfl <;> assumption
  have xu : x ≠ u := by rcases U with rfl | rfl | rfl <;> assumption
  have xv : x ≠ v := by rcases V with rfl | rfl | rfl <;> assumption
  have un : u < n := by rcases U with rfl | rfl | rfl <;> first | exact lt4 P ha hb hc hd | exact lt4 R ha hb hc hd | exact lt4 S ha hb hc hd
  have vn : v < n := by rcases V with rfl | rfl | rfl <;> first | exact lt4 P ha hb hc hd | exact lt4 R ha hb hc hd | exact lt4 S ha hb hc hd
  rcases Nat.lt_or_gt_of_ne m6 with l | l
  · exact ⟨y, g, u, v, yg, gu, l, vn, xy, xg, xu, xv, q2⟩
  · exact ⟨y, g, v, u, yg, gv, l, un, xy, xg, xv, xu, b5_34 al xu xv m6 q2⟩
theorem tn_pt1 {n : Nat} {f : Tn} (pm : Pm n f) : Pt1 n (tn f) := fun a b c ha hb hc hab hac hbc => tn_pm pm ha hb hc hab hac hbc
theorem tb_of {n : Nat} {f : Tn} (h3 : 3 ≤ n) (h8 : n ≤ 8) (pm : Pm n f) (h : brch f n = none) : Tb n (tn f) := by
  have hb := (brch_bad pm).mp h
  have pt := tn_pt1 pm
  refine ⟨h3, h8, tn_alt f, pt, fun w a b c hw ha hb' hc h1 h2 h3 h4 h5 h6 q => ?_, fun x a b c d hx ha hb' hc hd h1 h2 h3 h4 h5 h6 h7 h8 h9 h10 q => ?_⟩
  · obtain ⟨p, r, s, u, l1, l2, l3, l4, q⟩ := q4_sort (tn_alt f) hw ha hb' hc h1 h2 h3 h4 h5 h6 q
    have z : bad (tn f) n = true := bad_iff.mpr ⟨p, r, s, u, l1, l2, l3, l4, .inl ?_⟩
    · rw [hb] at z; cases z
    · unfold alt4
      obtain ⟨q1, q2, q3⟩ := q
      have e1 := pt p r s (by omega) (by omega) (by omega) (by omega) (by omega) (by omega)
      have e2 := pt p r u (by omega) (by omega) (by omega) (by omega) (by omega) (by omega)
      have e3 := pt p s u (by omega) (by omega) (by omega) (by omega) (by omega) (by omega)
      have e4 := pt r s u (by omega) (by omega) (by omega) (by omega) (by omega) (by omega)
      rw [decide_eq_true (by omega), decide_eq_true (by omega), decide_eq_true (by omega)]
      rfl
  · obtain ⟨p, r, s, u, l1, l2, l3, l4, x1, x2, x3, x4, q⟩ := b5_sort (tn_alt f) ha hb' hc hd h1 h2 h3 h4 h5 h6 h7 h8 h9 h10 q
    have z : bad (tn f) n = true := bad_iff.mpr ⟨p, r, s, u, l1, l2, l3, l4, .inr ⟨x, hx, x1, x2, x3, x4, b5_of.mpr q⟩⟩
    rw [hb] at z
    cases z
abbrev tw (w : List Nat) : Tn := tn (wf w)
theorem tw_tb {n : Nat} {w : List Nat} (h3 : 3 ≤ n) (h8 : n ≤ 8) (h : w ∈ allW n) : Tb n (tw w) ∧ lw n (tw w) = w := by
  obtain ⟨h1, h2, hb⟩ := (mem_allW h8).mp h
  refine ⟨tb_of h3 h8 (fun a b c _ _ _ => wf_pm) hb, ?_⟩
  rw [lw_congr (t := tw w) (u := wf w) fun a b c k1 k2 _ => tn_sort k1 k2]
  exact wf_lw h8 h1 h2
theorem wf_of {n : Nat} {t : Tn} (h8 : n ≤ 8) {a b c : Nat} (hab : a < b) (hbc : b < c) (hc : c < n) (pm : t a b c = 1 ∨ t a b c = -1) : wf (lw n t) a b c = t a b c := by
  unfold wf
  rw [lw_pos h8 hab hbc hc]
  rcases pm with e | e
  · rw [e]; rfl
  · rw [e]; rfl
theorem tw_lw {n : Nat} {t : Tn} (T : Tb n t) {a b c : Nat} (ha : a < n) (hb : b < n) (hc : c < n) (hab : a ≠ b) (hac : a ≠ c) (hbc : b ≠ c) : tw (lw n t) a b c = t a b c := by
  have e : ∀ x y z, x < y → y < z → z < n → wf (lw n t) x y z = t x y z := fun x y z h1 h2 h3 => wf_of T.hi h1 h2 h3 (T.tab.pm x y z h1 h2 h3)
  rw [← T.al.tn_eq hab hac hbc]
  unfold tw tn
  split <;> split <;> try split
  · exact e _ _ _ (by omega) (by omega) hc
  · rw [e _ _ _ (by omega) (by omega) hb]
  · exact e _ _ _ (by omega) (by omega) hb
  · rw [e _ _ _ (by omega) (by omega) hc]
  · exact e _ _ _ (by omega) (by omega) ha
  · rw [e _ _ _ (by omega) (by omega) ha]
end Mir
namespace Mir
open PySem PySem.Spec L2
def endW (n : Nat) : Tn → List T3 → Option Tn
  | t, [] => some t
  | t, p :: ps => if canB t n p.1 p.2.1 p.2.2 = true then endW n (rev t p.1 p.2.1 p.2.2) ps else none
def endD (n : Nat) : Option Tn → D
  | some u => strD (lw n u)
  | none => .non
def rowL (ps : List T3) : D := .lst (ps.map t3D)
theorem t3_eq (p : T3) : t3D p = .tup [.int (p.1 : Nat), .int (p.2.1 : Nat), .int (p.2.2 : Nat)] := rfl
theorem end_loop {n : Nat} : ∀ (ps : List T3) (t : Tn), Tb n t → (∀ p ∈ ps, p ∈ trp n) → (forC (X := Unit) (S := D) (fun v2_t (v1_j : D) => un3 .stk v2_t fun v3_a v4_b v5_c => M.bindC (b1 isB (b2 pyIsNot (b1 m_blocker (mlist [.ok v1_j, .ok (.int (n : Nat)), .ok v3_a, .ok v4_b, .ok v5_c])) (.ok .non))) () fun c => if c = true then (M.bindC (.ok .non) () Ctl.ret) else M.bindC (b1 m_with_reversed (mlist [.ok v1_j, .ok v3_a, .ok v4_b, .ok v5_c])) () fun v6_letters => .nx v6_letters) (ps.map t3D) (strD (lw n t)) : Ctl Unit D) = match endW n t ps with
    | some u => .nx (strD (lw n u))
    | none => .ret .non
  | [], t, _, _ => rfl
  | p :: ps, t, T, hp => by
    obtain ⟨h1, h2, h3, h4, h5, h6⟩ := mem_trp.mp (hp p List.mem_cons_self)
    rw [List.map_cons]
    show Ctl.bind (un3 .stk (t3D p) _) _ = _
    rw [t3_eq, un3_t, c5 (m := m_blocker), blocker_ok T h1 h2 h3 h4 h5 h6, opt_not_none, bindC_ok]
    unfold endW
    cases hb : blkO t n p.1 p.2.1 p.2.2 with
    | some d =>
      have hf : ¬ canB t n p.1 p.2.1 p.2.2 = true := fun z => by rw [blkO_none.mpr z] at hb; cases hb
      rw [if_pos (show (some d).isSome = true from rfl), if_neg hf]
      rfl
    | none =>
      have hc := blkO_none.mp hb
      rw [if_neg (show ¬ (none : Option Nat).isSome = true by decide), if_pos hc, c4 (m := m_with_reversed), with_rev_ok T h1 h2 h3 h4 h5 h6, bindC_ok]
      exact end_loop ps _ (T.rev h1 h2 h3 h4 h5 h6 (canB_iff.mp hc)) fun q hq => hp q (List.mem_cons_of_mem _ hq)
theorem end_ok {n : Nat} {t : Tn} (T : Tb n t) {ps : List T3} (hp : ∀ p ∈ ps, p ∈ trp n) : m_end_of [strD (lw n t), .int (n : Nat), rowL ps] = .ok (endD n (endW n t ps)) := by
  show (c_end_of (strD (lw n t)) (.int (n : Nat)) (rowL ps)).toM = _
  unfold c_end_of
  rw [show b1 pyItems (.ok (rowL ps)) = .ok (ps.map t3D) from rfl, bindC_ok, end_loop ps t T hp]
  cases endW n t ps <;> rfl
end Mir
namespace Mir
section
variable {t : Tn}
end
end Mir
namespace Mir
open PySem PySem.Spec L2
section
variable {n : Nat} {t : Tn}
theorem filter_comp {n : Nat} {W : D → M Bool} {f : Nat → Bool} (hn : n < 1000) (h : ∀ c, c < n → W (.int (c : Nat)) = .ok (f c)) : lcM (b1 pyRange1 (mlist [.ok (.int (n : Nat))])) (fun v1_c => elM (W v1_c) (.ok v1_c)) = .ok (natsL ((List.range n).filter f)) := by
  rw [range_n (by omega)]
  refine lcM_ok rfl (compR (fun c => if f c = true then [D.int (c : Nat)] else []) fun c hc => ?_) ?_ |>.trans ?_
  · rw [h c hc]
    cases f c
    · exact elM_f
    · exact elM_t rfl
  · have := len_flat (g := fun c : Nat => if f c = true then [D.int (c : Nat)] else []) (k := 1) (l := List.range n) fun x _ => by split <;> simp
    rw [List.length_range] at this
    omega
  · refine congrArg (fun l => M.ok (D.lst l)) ?_
    unfold natsD
    clear h
    generalize List.range n = L
    induction L with
    | nil => rfl
    | cons x L ih =>
      rw [List.flatMap_cons, ih, List.filter_cons]
      cases f x <;> rfl
end
end Mir
namespace Mir
open PySem PySem.Spec L2
inductive AK where
  | turn | rim | side | passes | inside | cross
def AK.s : AK → Str
  | .turn => "turn"
  | .rim => "rim"
  | .side => "side"
  | .passes => "passes"
  | .inside => "inside"
  | .cross => "cross"
def AK.ar : AK → Nat
  | .turn => 3
  | .rim => 1
  | .side => 2
  | .passes => 3
  | .inside => 4
  | .cross => 4
inductive Cl where
  | atom (k : AK) (ps : List Nat) (cnt : Nat) (w : Option Nat)
  | and (x y : Cl) | or (x y : Cl) | not (x : Cl)
def obC (k p w : D) : D := .obj 0 [("kind", k), ("parts", p), ("when", w)]
def Cl.dep : Cl → Nat
  | .atom .. => 0
  | .and x y => max x.dep y.dep + 1
  | .or x y => max x.dep y.dep + 1
  | .not x => x.dep + 1
def Cl.wf : Cl → Prop
  | .atom k ps _ _ => ps.length = k.ar ∧ ps.Nodup
  | .and x y => x.wf ∧ y.wf
  | .or x y => x.wf ∧ y.wf
  | .not x => x.wf
def Cl.at (m : Nat) : Cl → Cl
  | .atom k ps cnt none => .atom k ps cnt (some m)
  | .atom k ps cnt w => .atom k ps cnt w
  | .and x y => .and (x.at m) (y.at m)
  | .or x y => .or (x.at m) (y.at m)
  | .not x => .not (x.at m)
theorem fp {k p w : D} : pyFld 0 "parts" (obC k p w) = .ok p := by
  show ofOpt (([("kind", k), ("parts", p), ("when", w)] : List (Str × D)).lookup ("parts" : Str)) = _
  rw [List.lookup_cons, show (("parts" : Str) == ("kind" : Str)) = false by decide, List.lookup_cons]
  rfl
end Mir
namespace Mir
open PySem PySem.Spec L2
def okW (mo : Nat) : Option Nat → Bool
  | none => true
  | some m => decide (m < mo)
def Cl.val (n mo : Nat) : Cl → Bool
  | .atom _ ps _ w => ps.all (fun p => decide (p < n)) && okW mo w
  | .and x y => x.val n mo && y.val n mo
  | .or x y => x.val n mo && y.val n mo
  | .not x => x.val n mo
end Mir
namespace Mir
open PySem PySem.Spec L2
def walkD (ts : List Tn) (n : Nat) : D := .lst (ts.map fun t => strD (lw n t))
section
variable {n : Nat} {t : Tn}
theorem nd3 {a b c : Nat} (h : [a, b, c].Nodup) : a ≠ b ∧ a ≠ c ∧ b ≠ c := by
  simp only [List.nodup_cons, List.mem_cons, List.not_mem_nil, or_false, not_or, not_false_eq_true, and_true] at h
  exact ⟨h.1.1, h.1.2, h.2.1⟩
end
end Mir
namespace Mir
open PySem PySem.Spec L2
section
variable {n : Nat} {t : Tn}
def atD (k : AK) (ps : List Nat) (cnt : Nat) (w : Int) : D := .tup [.str k.s, natsL ps, .int (cnt : Nat), .int w]
theorem at0 {k : AK} {ps : List Nat} {cnt : Nat} {w : Int} : pyIx (atD k ps cnt w) (.int 0) = .ok (.str k.s) ∧ pyIx (atD k ps cnt w) (.int 1) = .ok (natsL ps) ∧ pyIx (atD k ps cnt w) (.int 2) = .ok (.int (cnt : Nat)) ∧ pyIx (atD k ps cnt w) (.int 3) = .ok (.int w) := ⟨rfl, rfl, rfl, rfl⟩
theorem ks_ne : ∀ k j : AK, k ≠ j → k.s ≠ j.s := by
  intro k j h
  cases k <;> cases j <;> first | exact absurd rfl h | decide
end
end Mir
namespace Mir
open PySem PySem.Spec L2
section
variable {n : Nat} {t : Tn}
inductive Fo where
  | atom (k : AK) (ps : List Nat) (cnt : Nat) (w : Int)
  | not (f : Fo) | at (m : Nat) (f : Fo) | and (f g : Fo) | or (f g : Fo)
def foD : Fo → D
  | .atom k ps cnt w => atD k ps cnt w
  | .not f => .tup [.str "not", foD f]
  | .at m f => .tup [.str "at", .int (m : Nat), foD f]
  | .and f g => .tup [.str "and", foD f, foD g]
  | .or f g => .tup [.str "or", foD f, foD g]
def Fo.dep : Fo → Nat
  | .atom .. => 0
  | .not f => f.dep + 1
  | .at _ f => f.dep + 1
  | .and f g => max f.dep g.dep + 1
  | .or f g => max f.dep g.dep + 1
def Fo.wf (n mo : Nat) : Fo → Prop
  | .atom k ps _ w => k.ar ≤ ps.length ∧ ps.Nodup ∧ (∀ p ∈ ps, p < n) ∧ w < mo
  | .not f => f.wf n mo
  | .at m f => m < mo ∧ f.wf n mo
  | .and f g => f.wf n mo ∧ g.wf n mo
  | .or f g => f.wf n mo ∧ g.wf n mo
def Fo.cl (p : List Nat) : Fo → Cl
  | .atom k ps cnt w => if 0 ≤ w then .atom k ((ps.take k.ar).map (nm p)) cnt (some w.toNat) else .atom k ((ps.take k.ar).map (nm p)) cnt none
  | .not f => .not (f.cl p)
  | .at m f => (f.cl p).at m
  | .and f g => .and (f.cl p) (g.cl p)
  | .or f g => .or (f.cl p) (g.cl p)
end
end Mir
namespace Mir
open PySem PySem.Spec L2
section
variable {n : Nat}
theorem draw_i (l : List Int) (k : Nat) (many : Nat) (h : 0 < many) {kk mm : Int} (hk : kk = k) (hm : mm = many) : ∃ d : Nat, b1 m_l_draw (mlist [.ok (intsD l), .ok (.int kk), .ok (.int mm)]) = .ok (.int d) ∧ d < many := by
  obtain ⟨d, e, hd⟩ := draw_n l k many h
  subst hk hm
  exact ⟨d, by rw [b1_draw]; exact e, hd⟩
def fosD (fs : List Fo) : D := .lst (fs.map foD)
def FoOk (n mo k : Nat) (f : Fo) : Prop := f.wf n mo ∧ f.dep ≤ k
theorem FoOk.mono {n mo j k : Nat} {f : Fo} (h : FoOk n mo j f) (l : j ≤ k) : FoOk n mo k f := ⟨h.1, Nat.le_trans h.2 l⟩
structure StOk (n mo k : Nat) (d : D) : Prop where
  ex : ∃ fs f, d = fosD (fs ++ [f]) ∧ fs.length ≤ k ∧ (∀ g ∈ fs, FoOk n mo k g) ∧ FoOk n mo k f
end
end Mir
namespace Mir
open PySem PySem.Spec L2
def dif (n : Nat) (ps qs : List T3) (w : List Nat) : Bool := decide ((endW n (tw w) ps).map (lw n) ≠ (endW n (tw w) qs).map (lw n))
def gP (n : Nat) (ps qs : List T3) (w : List Nat) : Option D := if dif n ps qs w = true then some (tabD n (tw w)) else none
def fstP (n : Nat) (ps qs : List T3) : Option (List Nat) := (allW n).find? (dif n ps qs)
theorem endD_ne {n : Nat} (o o' : Option Tn) : b1 isB (b2 pyNe (.ok (endD n o)) (.ok (endD n o'))) = .ok (decide (o.map (lw n) ≠ o'.map (lw n))) := by
  rw [b2_ok]
  cases o with
  | none =>
    cases o' with
    | none => rfl
    | some u => rfl
  | some u =>
    cases o' with
    | none => rfl
    | some v =>
      show b1 isB (pyNe (strD (lw n u)) (strD (lw n v))) = _
      rw [ne_strD, b1_ok, isB_bl]
      refine congrArg M.ok ?_
      by_cases h : lw n u = lw n v
      · rw [decide_eq_true h, Bool.not_true, eq_comm, decide_eq_false_iff_not, Option.map_some, Option.map_some, h]
        exact fun z => z rfl
      · rw [decide_eq_false h, Bool.not_false, eq_comm, decide_eq_true_iff, Option.map_some, Option.map_some]
        exact fun z => h (Option.some.inj z)
def p3I (z : Int × Int × Int) : D := p3D z.1 z.2.1 z.2.2
def ckI (n : Nat) (z : Int × Int × Int) : Bool := chk3 n z.1 z.2.1 z.2.2
def rowI (zs : List (Int × Int × Int)) : D := .lst (zs.map p3I)
def toI3 (p : T3) : Int × Int × Int := ((p.1 : Nat), (p.2.1 : Nat), (p.2.2 : Nat))
theorem row_I (ps : List T3) : rowL ps = rowI (ps.map toI3) := by
  unfold rowL rowI
  rw [List.map_map]
  rfl
theorem ck_trp {n : Nat} {p : T3} (h : p ∈ trp n) : ckI n (toI3 p) = true := by
  obtain ⟨h1, h2, h3, h4, h5, h6⟩ := mem_trp.mp h
  refine chk3_iff.mpr ?_
  unfold toI3
  dsimp only
  omega
theorem check_loop {n : Nat} : ∀ zs : List (Int × Int × Int), (forC (X := Unit) (S := Unit) (fun v2_passing (v1_j : Unit) => M.bindC (b1 m_check_passing (mlist [.ok (.int (n : Nat)), .ok v2_passing])) () fun _ => .nx ()) (zs.map p3I) () : Ctl Unit Unit) = if zs.all (ckI n) = true then .nx () else .exn ⟨1, []⟩ ()
  | [] => rfl
  | z :: zs => by
    rw [List.map_cons]
    show Ctl.bind (M.bindC (b1 m_check_passing (mlist [.ok (.int (n : Nat)), .ok (p3D z.1 z.2.1 z.2.2)])) () _) _ = _
    rw [c2 (m := m_check_passing), check_pass, List.all_cons]
    unfold ckI
    cases h : chk3 (n : Int) z.1 z.2.1 z.2.2 with
    | true =>
      rw [if_pos rfl, bindC_ok, Bool.true_and]
      exact check_loop zs
    | false => rfl
theorem chM_le3 {a b c : Int} : b1 isB (chM pyLe pyLe (.ok (.int a)) (.ok (.int b)) (.ok (.int c))) = .ok (decide (a ≤ b) && decide (b ≤ c)) := by
  have e : chM pyLe pyLe (.ok (.int a)) (.ok (.int b)) (.ok (.int c)) = .ok (.bl (decide (a ≤ b) && decide (b ≤ c))) := by
    unfold chM
    simp only [bind_ok]
    rw [show pyLe (.int a) (.int b) = .ok (.bl (decide (a ≤ b))) from rfl, show pyLe (.int b) (.int c) = .ok (.bl (decide (b ≤ c))) from rfl]
    cases decide (a ≤ b) <;> rfl
  rw [e, b1_ok, isB_bl]
theorem items2 {zs ys : List (Int × Int × Int)} (hl : zs.length + ys.length < 1000000) : b1 pyItems (b1 mkLst (starM (.ok (rowI zs)) (starM (.ok (rowI ys)) (.ok [])))) = .ok ((zs ++ ys).map p3I) := by
  show b1 pyItems (mkLst (zs.map p3I ++ (ys.map p3I ++ []))) = _
  rw [List.append_nil, ← List.map_append, lst_ok (by rw [List.length_map, List.length_append]; exact hl)]
  rfl
theorem n35 {n : Nat} (h3 : 3 ≤ n) (h5 : n ≤ 5) : (decide ((3 : Int) ≤ (n : Nat)) && decide (((n : Nat) : Int) ≤ 5)) = true := by
  rw [decide_eq_true (by omega), decide_eq_true (by omega)]
  rfl
theorem find_map {α β : Type} {p : α → Bool} {f : α → β} : ∀ l : List α, l.findSome? (fun x => if p x = true then some (f x) else none) = (l.find? p).map f
  | [] => rfl
  | x :: l => by
    rw [List.findSome?_cons, List.find?_cons]
    cases p x with
    | true => rfl
    | false => exact find_map l
theorem parted_ok {n : Nat} (h3 : 3 ≤ n) (h5 : n ≤ 5) {ps qs : List T3} (hp : ∀ p ∈ ps, p ∈ trp n) (hq : ∀ p ∈ qs, p ∈ trp n) (hl : ps.length + qs.length < 1000000) : m_parted [.int (n : Nat), rowL ps, rowL qs] = .ok (optD ((fstP n ps qs).map fun w => tabD n (tw w))) := by
  show (c_parted (.int (n : Nat)) (rowL ps) (rowL qs)).toM = _
  unfold c_parted
  have hall : (ps.map toI3 ++ qs.map toI3).all (ckI n) = true := by
    rw [List.all_eq_true]
    intro z hz
    rcases List.mem_append.mp hz with hz | hz
    · obtain ⟨p, h, rfl⟩ := List.mem_map.mp hz
      exact ck_trp (hp p h)
    · obtain ⟨p, h, rfl⟩ := List.mem_map.mp hz
      exact ck_trp (hq p h)
  have e2 : b1 pyItems (b1 mkLst (starM (.ok (rowL ps)) (starM (.ok (rowL qs)) (.ok [])))) = .ok ((ps.map toI3 ++ qs.map toI3).map p3I) := by
    rw [row_I, row_I]
    exact items2 (by rw [List.length_map, List.length_map]; exact hl)
  rw [chM_le3, n35 h3 h5, notM_ok, bindC_ok, if_neg (by decide), e2, bindC_ok, check_loop, hall, if_pos rfl, ctl_nx, c1 (m := m_all_letters), all_letters_ok h5, show b1 pyItems (.ok (.lst ((allW n).map strD))) = .ok ((allW n).map strD) from rfl, bindC_ok, loopM_find strD (gP n ps qs) fun w hw => ?_, ctl_out]
  · rw [show (allW n).findSome? (gP n ps qs) = (fstP n ps qs).map fun w => tabD n (tw w) from find_map _]
    cases fstP n ps qs <;> rfl
  · obtain ⟨T, ew⟩ := tw_tb h3 (by omega) hw
    have e := end_ok T hp
    have e' := end_ok T hq
    have em := make_ok T
    rw [ew] at e e' em
    rw [c3 (m := m_end_of), e, c3 (m := m_end_of), e', endD_ne, bindC_ok]
    unfold gP dif
    by_cases h : (endW n (tw w) ps).map (lw n) ≠ (endW n (tw w) qs).map (lw n)
    · rw [if_pos (decide_eq_true h), if_pos (decide_eq_true h), em, bindC_ok]
      rfl
    · rw [if_neg (by rw [decide_eq_false h]; decide), if_neg (by rw [decide_eq_false h]; decide)]
      rfl
theorem way_trp {n : Nat} {t : Tn} (T : Tb n t) {x : T3} (h : x ∈ waysL t n) : x ∈ trp n ∧ Tb n (Mir.rev t x.1 x.2.1 x.2.2) := by
  obtain ⟨h1, h2, h3, h4, h5, h6⟩ := mem_ways.mp h
  exact ⟨mem_trp.mpr ⟨by omega, h3, h2, by omega, by omega, h5⟩, T.rev (by omega) h3 h2 (by omega) (by omega) h5 (canB_iff.mp h6)⟩
end Mir
namespace Mir
open PySem PySem.Spec L2
structure En where
  ps : Bool
  p : T3
  s : Int
deriving DecidableEq
def En.ok (n : Nat) (e : En) : Prop := e.p ∈ trp n ∧ (e.ps = false → e.s = 1 ∨ e.s = -1)
def revE (t : Tn) (e : En) : Tn := rev t e.p.1 e.p.2.1 e.p.2.2
def stepE (n : Nat) (t : Tn) (e : En) : Option Tn :=
  if e.ps = true then (if canB t n e.p.1 e.p.2.1 e.p.2.2 = true then some (revE t e) else none)
  else if t e.p.1 e.p.2.1 e.p.2.2 = e.s then some t else none
def runE (n : Nat) : Tn → List En → Option Tn
  | t, [] => some t
  | t, e :: es => (stepE n t e).bind fun u => runE n u es
theorem runE_app {n : Nat} : ∀ {es fs : List En} {t : Tn}, runE n t (es ++ fs) = (runE n t es).bind fun u => runE n u fs
  | [], fs, t => rfl
  | e :: es, fs, t => by
    show (stepE n t e).bind (fun u => runE n u (es ++ fs)) = ((stepE n t e).bind fun u => runE n u es).bind _
    cases stepE n t e with
    | none => rfl
    | some u => exact runE_app
theorem app_lst {xs : List D} {y : D} (h : xs.length < 1000000) : appM (.lst xs) (.ok y) = .ok (.lst (xs ++ [y])) := by
  show (if xs.length < sizeLine then M.ok (D.lst (xs ++ [y])) else .stk) = _
  rw [if_pos (sz_big h)]
structure Bk (n : Nat) (es : List En) : Prop where
  h3 : 3 ≤ n
  h5 : n ≤ 5
  ok : ∀ e ∈ es, e.ok n
  len : es.length < 10000
section
variable {n : Nat} {es : List En}
end
end Mir
namespace Mir
open PySem PySem.Spec L2
theorem compF_map {α : Type} {W : D → M Bool} {f : α → Bool} (h : α → D) {l : List α} {i : M (List D)} (hi : i = .ok (l.map h)) (hl : l.length < 1000000) (hw : ∀ x ∈ l, W (h x) = .ok (f x)) : lcM i (fun v => elM (W v) (.ok v)) = .ok (.lst ((l.filter f).map h)) := by
  refine lcM_ok hi (compL_map h (fun w => if f w = true then [h w] else []) fun w hx => ?_) ?_ |>.trans ?_
  · rw [hw w hx]
    cases f w
    · exact elM_f
    · exact elM_t rfl
  · have := len_flat (g := fun w => if f w = true then [h w] else []) (k := 1) (l := l) fun x _ => by split <;> simp
    omega
  · refine congrArg (fun l => M.ok (D.lst l)) ?_
    clear hi hl hw
    induction l with
    | nil => rfl
    | cons w l ih =>
      rw [List.flatMap_cons, ih, List.filter_cons]
      split <;> simp
theorem compG_map {α : Type} {e : D → M D} {f : α → D} (h : α → D) {l : List α} {i : M (List D)} (hi : i = .ok (l.map h)) (hl : l.length < 1000000) (hw : ∀ x ∈ l, e (h x) = .ok (f x)) : lcM i (fun v => elM (.ok true) (e v)) = .ok (.lst (l.map f)) := by
  refine lcM_ok hi (compL_map h (fun w => [f w]) fun w hx => elM_t (hw w hx)) ?_ |>.trans ?_
  · have := len_flat (g := fun w => [f w]) (k := 1) (l := l) fun x _ => by simp
    omega
  · refine congrArg (fun l => M.ok (D.lst l)) ?_
    clear hi hl hw
    induction l with
    | nil => rfl
    | cons w l ih => rw [List.flatMap_cons, ih, List.map_cons]; rfl
section
variable {n : Nat} {es : List En}
end
end Mir
namespace Mir
open PySem PySem.Spec L2
section
variable {n : Nat} {es : List En}
theorem forGR_cons {J : Type} {f : D → J → (J → GR) → GR} {d : D} {ds : List D} {j : J} {k : J → GR} : forGR f (d :: ds) j k = f d j fun j' => forGR f ds j' k := rfl
end
end Mir
namespace Mir
open PySem PySem.Spec L2
def wkT (n : Nat) : Tn → List T3 → List Tn × Option Nat
  | _, [] => ([], none)
  | t, p :: ps => match blkO t n p.1 p.2.1 p.2.2 with
    | some d => ([], some d)
    | none => (rev t p.1 p.2.1 p.2.2 :: (wkT n (rev t p.1 p.2.1 p.2.2) ps).1, (wkT n (rev t p.1 p.2.1 p.2.2) ps).2)
def obsE (d : Nat) : Exc := ⟨4, [("observer", .int (d : Nat))]⟩
section
variable {n : Nat}
theorem rev_ok {t : Tn} (T : Tb n t) {p : T3} (hp : p ∈ trp n) (h : blkO t n p.1 p.2.1 p.2.2 = none) : Tb n (rev t p.1 p.2.1 p.2.2) := by
  obtain ⟨h1, h2, h3, h4, h5, h6⟩ := mem_trp.mp hp
  exact T.rev h1 h2 h3 h4 h5 h6 (canB_iff.mp (blkO_none.mp h))
theorem wk_loop : ∀ (ps : List T3) (t : Tn), Tb n t → (∀ p ∈ ps, p ∈ trp n) →
    forGR (J := D) (fun v10_passing (v9_j : D) => (fun v11_k => Ctl.gr (M.bindC (b2 (shrO 1 m_Table___rshift) (.ok v9_j) (.ok v10_passing)) () fun v12_table => .nx v12_table : Ctl Unit D) fun (v13_j : D) => (fun v14_k => M.gr (.ok v13_j) fun v15_y => GR.yld v15_y ((fun v16_k => v16_k v13_j) v14_k)) v11_k)) (ps.map t3D) (tabD n t) (fun (v9_j : D) => GR.don [] none)
      = .don ((wkT n t ps).1.map (tabD n)) ((wkT n t ps).2.map obsE)
  | [], t, _, _ => rfl
  | p :: ps, t, T, h => by
    have hp := h p List.mem_cons_self
    obtain ⟨h1, h2, h3, h4, h5, h6⟩ := mem_trp.mp hp
    rw [List.map_cons, forGR_cons]
    have e : b2 (shrO 1 m_Table___rshift) (.ok (tabD n t)) (.ok (t3D p)) = match blkO t n p.1 p.2.1 p.2.2 with
      | some d => .exn ⟨4, [("observer", .int d)]⟩
      | none => .ok (tabD n (rev t p.1 p.2.1 p.2.2)) := rshift_ok T h1 h2 h3 h4 h5 h6
    rw [e]
    unfold wkT
    cases hb : blkO t n p.1 p.2.1 p.2.2 with
    | some d => rfl
    | none =>
      have ih := wk_loop ps _ (rev_ok T hp hb) fun q hq => h q (List.mem_cons_of_mem _ hq)
      show GR.yld (tabD n (rev t p.1 p.2.1 p.2.2)) (forGR _ (ps.map t3D) (tabD n (rev t p.1 p.2.1 p.2.2)) _) = _
      rw [ih]
      rfl
theorem wk_check {t : Tn} : ∀ (ps : List T3), (∀ p ∈ ps, p ∈ trp n) →
    (forC (X := Unit) (S := Unit) (fun v3_passing (v2_j : Unit) => M.bindC (b1 m_check_passing (mlist [b1 (pyFld 1 "posts") (.ok (tabD n t)), .ok v3_passing])) () fun _ => .nx ()) (ps.map t3D) ()) = .nx ()
  | [], _ => rfl
  | p :: ps, h => by
    obtain ⟨h1, h2, h3, h4, h5, h6⟩ := mem_trp.mp (h p List.mem_cons_self)
    have e : b1 m_check_passing (mlist [b1 (pyFld 1 "posts") (.ok (tabD n t)), .ok (t3D p)]) = .ok .non := by
      rw [b1_ok, fld_posts, c2 (m := m_check_passing), show t3D p = p3D (p.1 : Nat) (p.2.1 : Nat) (p.2.2 : Nat) from rfl, check_pass, if_pos (chk3_nat h1 h2 h3 h4 h5 h6)]
    show (M.bindC (b1 m_check_passing (mlist [b1 (pyFld 1 "posts") (.ok (tabD n t)), .ok (t3D p)])) () fun _ => (Ctl.nx () : Ctl Unit Unit)).bind _ = _
    rw [e, bindC_ok]
    exact wk_check ps fun q hq => h q (List.mem_cons_of_mem _ hq)
theorem walk_ok07 {t : Tn} (T : Tb n t) {ps : List T3} (h : ∀ p ∈ ps, p ∈ trp n) : m_walk [tabD n t, t3sD ps] = .don (tabD n t :: (wkT n t ps).1.map (tabD n)) ((wkT n t ps).2.map obsE) := by
  show g_walk (tabD n t) (t3sD ps) (fun _ => GR.don [] none) = _
  unfold g_walk
  rw [show b1 pyItems (.ok (t3sD ps)) = .ok (ps.map t3D) from rfl, bindC_ok, wk_check ps h]
  show GR.yld (tabD n t) (forGR _ (ps.map t3D) (tabD n t) (fun (v9_j : D) => GR.don [] none)) = _
  rw [wk_loop ps t T h]
  rfl
end
end Mir
namespace Mir
open PySem PySem.Spec L2
section
variable {n : Nat} {es : List En}
end
end Mir
namespace Mir
open PySem PySem.Spec L2
end Mir
namespace Mir
open PySem PySem.Spec L2
section
variable {n : Nat} {es : List En}
theorem Bk.snoc (B : Bk n es) {e : En} (ok : e.ok n) (hl : es.length < 9000) : Bk n (es ++ [e]) := ⟨B.h3, B.h5, fun x hx => (List.mem_append.mp hx).elim (B.ok x) fun h => by rw [List.mem_singleton.mp h]; exact ok, by rw [List.length_append, List.length_singleton]; omega⟩
end
end Mir
namespace Mir
open PySem PySem.Spec L2
section
variable {n : Nat} {es : List En}
end
end Mir
namespace Mir
open PySem PySem.Spec L2
section
variable {n : Nat}
structure Hid (n : Nat) (t : Tn) (es : List En) (m : Nat) : Prop where
  ok : ∀ e ∈ es, e.ok n
  run : ∃ u, runE n t es = some u
  len : es.length = m
end
end Mir
namespace Mir
open PySem PySem.Spec L2
section
variable {n : Nat}
def Eqv (n : Nat) (t u : Tn) : Prop := ∀ x ∈ trp n, t x.1 x.2.1 x.2.2 = u x.1 x.2.1 x.2.2
theorem Eqv.at {t u : Tn} (h : Eqv n t u) {a b c : Nat} (ha : a < n) (hb : b < n) (hc : c < n) (ab : a ≠ b) (ac : a ≠ c) (bc : b ≠ c) : t a b c = u a b c := h (a, b, c) (mem_trp.mpr ⟨ha, hb, hc, ab, ac, bc⟩)
theorem Eqv.symm {t u : Tn} (h : Eqv n t u) : Eqv n u t := fun x hx => (h x hx).symm
theorem eqv_lw {t : Tn} (T : Tb n t) : Eqv n t (tw (lw n t)) := fun x hx => by
  obtain ⟨h1, h2, h3, h4, h5, h6⟩ := mem_trp.mp hx
  exact (tw_lw T h1 h2 h3 h4 h5 h6).symm
theorem eqv_of_lw {t u : Tn} (T : Tb n t) (U : Tb n u) (h : lw n t = lw n u) : Eqv n t u := fun x hx => by
  have h1 := eqv_lw T x hx
  have h2 := eqv_lw U x hx
  rw [h] at h1
  exact h1.trans h2.symm
def OEq (n : Nat) : Option Tn → Option Tn → Prop
  | some t, some u => Eqv n t u
  | none, none => True
  | _, _ => False
theorem OEq.some {o o' : Option Tn} (h : OEq n o o') : o.isSome = o'.isSome := by
  cases o <;> cases o' <;> first | rfl | exact h.elim
theorem Hid.bk {t : Tn} {es : List En} {m : Nat} (H : Hid n t es m) (h3 : 3 ≤ n) (h5 : n ≤ 5) (hm : m < 9000) : Bk n es := ⟨h3, h5, H.ok, by have := H.len; omega⟩
theorem Hid.take {t : Tn} {es : List En} {m : Nat} (H : Hid n t es m) (k : Nat) (hk : k ≤ m) : Hid n t (es.take k) k := by
  refine ⟨fun e he => H.ok e (List.mem_of_mem_take he), ?_, by rw [List.length_take, H.len]; omega⟩
  obtain ⟨u, hu⟩ := H.run
  rw [← List.take_append_drop k es, runE_app] at hu
  cases h : runE n t (es.take k) with
  | none => rw [h] at hu; cases hu
  | some v => exact ⟨v, rfl⟩
end
end Mir
namespace Mir
open PySem PySem.Spec L2
section
variable {n : Nat}
end
end Mir
namespace Mir
open PySem PySem.Spec L2
end Mir
namespace Mir
open PySem PySem.Spec L2
section
variable {n : Nat}
theorem wk_len : ∀ (ps : List T3) (t : Tn), (wkT n t ps).1.length ≤ ps.length
  | [], _ => Nat.le_refl _
  | p :: ps, t => by
    unfold wkT
    cases hb : blkO t n p.1 p.2.1 p.2.2 with
    | some d => exact Nat.zero_le _
    | none => exact Nat.succ_le_succ (wk_len ps _)
theorem walk_list {t : Tn} {ps : List T3} : ∀ (l : List Tn) (pre : List D), pre.length + l.length < 100000 → (forC (X := D) (S := D) (fun v24_step_here (v23_j : D) => Ctl.nox (M.bindC (appM v23_j (.ok v24_step_here)) v23_j fun v25_got => .nx v25_got)) (l.map (tabD n)) (D.lst pre) : Ctl D D) = .nx (D.lst (pre ++ l.map (tabD n)))
  | [], pre, _ => by rw [List.map_nil, List.append_nil]; rfl
  | u :: l, pre, h => by
    rw [List.length_cons] at h
    show Ctl.bind (Ctl.nox (M.bindC (appM (D.lst pre) (.ok (tabD n u))) (D.lst pre) fun v25_got => (.nx v25_got : Ctl D D))) _ = _
    rw [app_lst (by omega), bindC_ok]
    show forC _ _ _ = _
    refine (walk_list (t := t) (ps := ps) l (pre ++ [tabD n u]) (by rw [List.length_append, List.length_singleton]; omega)).trans ?_
    rw [List.append_assoc]
    rfl
end
end Mir
namespace Mir
open PySem PySem.Spec L2
def inT (x : Nat) (p : T3) : Prop := x = p.1 ∨ x = p.2.1 ∨ x = p.2.2
def Far (p q : T3) : Prop := ∀ x y, x ≠ y → inT x p → inT y p → inT x q → inT y q → False
theorem Far.symm {p q : T3} (h : Far p q) : Far q p := fun x y n a b c d => h x y n c d a b
abbrev rvT (t : Tn) (p : T3) : Tn := rev t p.1 p.2.1 p.2.2
abbrev cnT (t : Tn) (n : Nat) (p : T3) : Bool := canB t n p.1 p.2.1 p.2.2
section
variable {n : Nat} {t : Tn} {p q : T3}
theorem fill3 {a b c x y z : Nat} (ab : a ≠ b) (ac : a ≠ c) (bc : b ≠ c) (h1 : a = x ∨ a = y ∨ a = z) (h2 : b = x ∨ b = y ∨ b = z) (h3 : c = x ∨ c = y ∨ c = z) : (x = a ∨ x = b ∨ x = c) ∧ (y = a ∨ y = b ∨ y = c) ∧ (z = a ∨ z = b ∨ z = c) := by omega
theorem rev_off (hp : p ∈ trp n) {x y z : Nat} (h : ¬ (inT x p ∧ inT y p ∧ inT z p)) : rvT t p x y z = t x y z := by
  obtain ⟨_, _, _, k1, k2, k3⟩ := mem_trp.mp hp
  exact rev_no fun ⟨h1, h2, h3⟩ => h (fill3 k1 k2 k3 h1 h2 h3)
theorem can_off (hp : p ∈ trp n) (hq : q ∈ trp n) (h : ∀ d, d ≠ q.1 → d ≠ q.2.1 → d ≠ q.2.2 → ¬ (inT d p ∧ inT q.1 p ∧ inT q.2.1 p) ∧ ¬ (inT d p ∧ inT q.2.1 p ∧ inT q.2.2 p) ∧ ¬ (inT d p ∧ inT q.1 p ∧ inT q.2.2 p)) : cnT (rvT t p) n q = cnT t n q := by
  have e : ∀ d, d ≠ q.1 → d ≠ q.2.1 → d ≠ q.2.2 → (Sees (rvT t p) d q.1 q.2.1 q.2.2 ↔ Sees t d q.1 q.2.1 q.2.2) := fun d h1 h2 h3 => by
    obtain ⟨k1, k2, k3⟩ := h d h1 h2 h3
    unfold Sees
    rw [rev_off hp k1, rev_off hp k2, rev_off hp k3]
  rw [Bool.eq_iff_iff, canB_iff, canB_iff]
  exact ⟨fun z d hd h1 h2 h3 => (e d h1 h2 h3).mp (z d hd h1 h2 h3), fun z d hd h1 h2 h3 => (e d h1 h2 h3).mpr (z d hd h1 h2 h3)⟩
theorem can_far (hp : p ∈ trp n) (hq : q ∈ trp n) (h : Far p q) : cnT (rvT t p) n q = cnT t n q := by
  obtain ⟨_, _, _, k1, k2, k3⟩ := mem_trp.mp hq
  have i1 : inT q.1 q := .inl rfl
  have i2 : inT q.2.1 q := .inr (.inl rfl)
  have i3 : inT q.2.2 q := .inr (.inr rfl)
  exact can_off hp hq fun d _ _ _ => ⟨fun z => h _ _ k1 z.2.1 z.2.2 i1 i2, fun z => h _ _ k3 z.2.1 z.2.2 i2 i3, fun z => h _ _ k2 z.2.1 z.2.2 i1 i3⟩
theorem can_self (hp : p ∈ trp n) : cnT (rvT t p) n p = cnT t n p := by
  have no : ∀ d, d ≠ p.1 → d ≠ p.2.1 → d ≠ p.2.2 → ¬ inT d p := fun d h1 h2 h3 z => z.elim h1 fun z => z.elim h2 h3
  exact can_off hp hp fun d h1 h2 h3 => ⟨fun z => no d h1 h2 h3 z.1, fun z => no d h1 h2 h3 z.1, fun z => no d h1 h2 h3 z.1⟩
theorem rv_comm : rvT (rvT t p) q = rvT (rvT t q) p := by
  funext x y z
  unfold rvT rev
  by_cases h1 : (p.1 = x ∨ p.1 = y ∨ p.1 = z) ∧ (p.2.1 = x ∨ p.2.1 = y ∨ p.2.1 = z) ∧ (p.2.2 = x ∨ p.2.2 = y ∨ p.2.2 = z)
  · rw [if_pos h1, if_pos h1]
    split <;> rfl
  · rw [if_neg h1, if_neg h1]
theorem rv_tb (T : Tb n t) (hp : p ∈ trp n) (h : cnT t n p = true) : Tb n (rvT t p) := by
  obtain ⟨h1, h2, h3, h4, h5, h6⟩ := mem_trp.mp hp
  exact T.rev h1 h2 h3 h4 h5 h6 (canB_iff.mp h)
theorem rv_at : rvT t p p.1 p.2.1 p.2.2 = - t p.1 p.2.1 p.2.2 := rev_yes ⟨.inl rfl, .inr (.inl rfl), .inr (.inr rfl)⟩
theorem far_at (hq : q ∈ trp n) (h : Far p q) (hp : p ∈ trp n) : rvT t q p.1 p.2.1 p.2.2 = t p.1 p.2.1 p.2.2 := by
  obtain ⟨_, _, _, k1, _, _⟩ := mem_trp.mp hp
  exact rev_off hq fun z => h _ _ k1 (.inl rfl) (.inr (.inl rfl)) z.1 z.2.1
theorem word_ne {u v : Tn} (U : Tb n u) (V : Tb n v) (hp : p ∈ trp n) (h : u p.1 p.2.1 p.2.2 = - v p.1 p.2.1 p.2.2) : lw n u ≠ lw n v := fun e => by
  have h1 := eqv_of_lw U V e p hp
  obtain ⟨a1, a2, a3, a4, a5, a6⟩ := mem_trp.mp hp
  rcases V.pm _ _ _ a1 a2 a3 a4 a5 a6 with z | z <;> rw [z] at h h1 <;> rw [h] at h1 <;> exact absurd h1 (by decide)
theorem wk_yes {ps : List T3} (h : cnT t n p = true) : (wkT n t (p :: ps)).1 = rvT t p :: (wkT n (rvT t p) ps).1 := by
  rw [wkT]
  rw [blkO_none.mpr h]
theorem wk_no {ps : List T3} (h : cnT t n p = false) : (wkT n t (p :: ps)).1 = [] := by
  rw [wkT]
  cases hb : blkO t n p.1 p.2.1 p.2.2 with
  | some d => rfl
  | none =>
    have := blkO_none.mp hb
    have h : canB t n p.1 p.2.1 p.2.2 = false := h
    rw [this] at h
    cases h
theorem wk_two (hp : p ∈ trp n) (hq : q ∈ trp n) (h : Far p q) : (wkT n t [p, q]).1 = if cnT t n p = true then (if cnT t n q = true then [rvT t p, rvT (rvT t p) q] else [rvT t p]) else [] := by
  cases h1 : cnT t n p with
  | false =>
    rw [wk_no h1, if_neg Bool.false_ne_true]
  | true =>
    rw [wk_yes h1, if_pos rfl]
    have e := can_far (t := t) hp hq h
    cases h2 : cnT t n q with
    | false =>
      rw [wk_no (e.trans h2), if_neg Bool.false_ne_true]
    | true =>
      rw [wk_yes (e.trans h2), if_pos rfl]
      rfl
theorem wk_back (hp : p ∈ trp n) (hq : q ∈ trp n) (h1 : cnT t n p = true) : (wkT n t [p, p, q]).1.length = 2 + if cnT t n q = true then 1 else 0 := by
  have e2 : rvT (rvT t p) p = t := rev_rev
  rw [wk_yes h1, wk_yes ((can_self hp).trans h1), e2]
  cases h2 : cnT t n q with
  | false => rw [wk_no h2, if_neg Bool.false_ne_true]; rfl
  | true => rw [wk_yes h2, if_pos rfl]; rfl
theorem end_two (hp : p ∈ trp n) (hq : q ∈ trp n) (h : Far p q) : endW n t [p, q] = if cnT t n p = true then (if cnT t n q = true then some (rvT (rvT t p) q) else none) else none := by
  show (if cnT t n p = true then (if cnT (rvT t p) n q = true then some (rvT (rvT t p) q) else none) else none) = _
  rw [can_far hp hq h]
theorem parted_none (hp : p ∈ trp n) (hq : q ∈ trp n) (h : Far p q) : fstP n [p, q] [q, p] = none := by
  unfold fstP
  refine List.find?_eq_none.mpr fun w _ => ?_
  unfold dif
  rw [end_two hp hq h, end_two hq hp h.symm, rv_comm]
  cases cnT (tw w) n p <;> cases cnT (tw w) n q <;> simp
end
end Mir
namespace Mir
open PySem PySem.Spec L2
section
variable {F : Fm} {Γ : Gam} {X Y S J : Type} {fx : X → Gam} {fy : Y → Gam} {fs : S → Gam} {fj : J → Gam} {x0 : X} {pos : Pos} {rest body suite : List Stmt} {b₀ : Stmt}
theorem bm_tryN {x : Str} {tab : List Bool} {np pos' : Pos} {cb : Ctl Y J} {h : Exc → Y → Ctl X J} {k : J → Ctl X S} (K : XcN F.G x tab) (hg : F.kd.lookup x = some .globalImplicit) (ht : F.top = true)
    (hb : ∀ W', BM (tryF F W') body Γ (cb.out fy fj))
    (hs : ∀ a dd (e : Exc) y, ((e.fs = [] ∧ dd = none) ∨ (e.fs ≠ [] ∧ ∃ d, dd = some d)) → tab[e.c]? = some true → BM (suiteF F a (F.G.xc e.c) dd) (b₀ :: suite) (fy y) ((h e y).out fx fj))
    (hr : ∀ j, BM F rest (fj j) ((k j).out fx fs)) :
    BM F (.Try body [.ExceptHandler (some (.Name x np)) none (b₀ :: suite) pos'] [] [] pos :: rest) Γ (((cb.tryC tab h).bind k).out fx fs) := by
  obtain ⟨cv, vv, hnm, hrel, hun, hx⟩ := K.ex
  refine bm_cons (t := fun D σ H => cB (tryF F (wOnly F.G.K cv (fun a cls d => cB (suiteF F a cls d) (b₀ :: suite)) F.W D)) body D σ H) (fun Z hZ => ?_) fun S0 H0 Dn σ S H g hh po => ?_
  · obtain ⟨h1, h2, h3, h4, h5, h6⟩ := F.hX Z hZ
    obtain ⟨t1, t2, t3⟩ := F.ht ht Z hZ
    have hp := L2N.ps_try_oneN (X := Z) (x := x) (c := cv) (body := body) (suite := suite) (b₀ := b₀) (np := np) (pos := pos) (pos' := pos') (tb := fun W => cB (tryF F W) body) (ts := fun a cls d => cB (suiteF F a cls d) (b₀ :: suite)) (Wout := F.W) t1 t2
      ⟨F.gl Z hZ hg, K.db, by rw [h4]; exact hnm⟩ (F.tk Z hZ) (fun W pn xe tk po => cB_ok (F := tryF F W) _ ⟨Z, pn, xe, hZ, tk, po, rfl⟩)
      (fun a oe cls d pn hz hf => cB_ok (F := suiteF F a cls d) _ ⟨Z, oe, pn, hZ, hz, hf, rfl⟩)
    rw [F.hK Z hZ] at hp
    exact hp
  · have po := OPo.seq (F := F) (nx := cB F rest Dn) (fj := fj) po fun j q σ S H g hh => (hr j).c S0 H0 Dn σ S H g hh q
    have hb := (hb (wOnly F.G.K cv (fun a cls d => cB (suiteF F a cls d) (b₀ :: suite)) F.W { Dn with nx := cB F rest Dn })).c S0 H0 { Dn with nx := cB F rest Dn } σ S H g hh
    refine hb ?_
    cases cb with
    | stk => exact po
    | ret d => exact po
    | nx j => exact po
    | exn e y =>
      intro cls dd σ1 S1 H1 g1 hΔ rx
      obtain ⟨Δ, hΔ, w⟩ := hΔ
      by_cases ht : tab[e.c]? = some true
      · have po : OPo F S0 H0 { Dn with nx := cB F rest Dn } ((match h e y with
            | .exn _ _ => (.stk : Ctl X J)
            | c => c).out fx fj) := by
          have : Ctl.tryC (.exn e y) tab h = (match h e y with
            | .exn _ _ => (.stk : Ctl X J)
            | c => c) := by
            show (if tab[e.c]? = some true then _ else _) = _
            rw [if_pos ht]
            try (cases h e y <;> rfl)
          rw [← this]
          exact po
        refine ⟨true, ?_, fun _ a ha => ?_, fun z => by cases z⟩
        · rw [rx.1]; exact (hx e.c true ht).1
        · have hsu := hs a dd e y (rx.2.elim .inl fun ⟨n, d, _, z, _⟩ => .inr ⟨n, d, z⟩) ht
          have rx1 : cls = F.G.xc e.c := rx.1
          rw [← rx1] at hsu
          refine hsu.c S0 H0 _ _ S1 H1 g1 (hΔ.weak w) ?_
          revert po
          cases h e y with
          | stk => exact fun z => z
          | exn e' x' => exact fun z => False.elim z
          | ret d => exact fun z => z
          | nx j => exact fun z σ' S' H' g' h' => z _ S' H' g' h'
      · have : Ctl.tryC (.exn e y) tab h = .stk := by
          show (if tab[e.c]? = some true then _ else _) = _
          rw [if_neg ht]
        rw [this] at po
        exact False.elim po
end
end Mir
set_option maxHeartbeats 2000000
namespace L2
open PySem PySem.Spec PyProof.Rows
section
variable {prog : Program} {w : World} {A : Around} {E : Value → Shared → Prop} {s : Shared}
theorem next_end_hot {it l x1 : Addr} {i : Nat} {items : Array Value} {Q : Option Value → Shared → Prop} (hot : HotX.HotAt A x1 s.heap) (st : s.heap.IsListIter it l i) (hl : s.heap.IsList l items) (hx : items[i]? = none) (ne : x1 ≠ it)
    (q : ∀ h', Heap.ExtBut it s.heap h' → Q none { s with heap := h' }) : wpAny (model prog w) A (pyNext (.ref it)) Q E s := by
  obtain ⟨hh, o1, vs1, g1, d1, c1⟩ := hot
  obtain ⟨o, ho, hc, hd⟩ := id st
  obtain ⟨ol, hol, _, nl, hdl⟩ := hl
  unfold pyNext
  refine wpAny_bind (wpAny_attempt (wpAny_callSpecial?_slot (name := Str.ofString "__next__") st.typeIs slot_listiter_next (wpAny_call_entry slot_listiter_next st.typeIs entry_listiter_next ?_ (args_listiter_next _))))
  change wpAny _ _ (field (.ref it) 0 >>= _) _ _ s
  refine wpAny_bind (wpAny_field ho hd (x := Value.ref l) rfl ?_)
  change wpAny _ _ (if (Value.ref l == Value.none) = true then _ else _) _ _ s
  rw [if_neg (show ¬ (Value.ref l == Value.none) = true from fun z => nomatch z)]
  change wpAny _ _ (field (.ref it) 1 >>= _) _ _ s
  refine wpAny_bind (wpAny_field ho hd (x := Value.int i 0) rfl ?_)
  change wpAny _ _ (seqItems? (.ref l) >>= _) _ _ s
  refine wpAny_bind (wpAny_seqItems hol hdl ?_)
  simp only [hx, Int.toNat_natCast]
  refine wpAny_bind (wpAny_rule (wpAny_bind (wpAny_setField ho hd (by simp) ?_)))
  change wpAny _ _ (newExc (.type "StopIteration") [] >>= _) _ _ _
  refine wpAny_bind ?_
  unfold newExc newTuple
  refine wpAny_bind (wpAny_newObj_type ?_ (show _ from by size_fits))
  refine wpAny_bind (m := firstArgMember _ _) (wpAny_of_eq (a := Value.none) (show _ from by first | rfl | (unfold firstArgMember; rfl)) ?_)
  refine wpAny_newObj_type ?_ (show _ from by size_fits)
  have k1 : (s.heap.update it (Obj.mapFields (·.setIfInBounds 0 Value.none))).get? x1 = some o1 := (Heap.get?_update_other _ _ (Ne.symm ne)).trans g1
  refine HotX.raiseNew_hot ⟨hh, o1, vs1, Heap.get?_push_of_some _ (Heap.get?_push_of_some _ k1), d1, c1⟩ (Nat.ne_of_lt (Heap.lt_size (Heap.get?_push_of_some _ k1))) (Heap.get?_push_size _ rfl) rfl (by first | (simp; done) | (simp; omega) | (rw [Array.size_append]; simp; omega)) ?_
  refine wpAny_bind (wpAny_isInstance (T := "StopIteration") (b := true) ⟨_, Heap.get?_update_self _ (Heap.get?_push_size _ rfl) rfl, rfl⟩ isSubtype_stop (wpAny_pure (q _ fun b u hb e => ?_)))
  have e1 : (s.heap.update it (Obj.mapFields (·.setIfInBounds 0 Value.none))).get? b = some u := (Heap.get?_update_other _ _ (Ne.symm hb)).trans e
  exact (Heap.get?_update_other _ _ (Nat.ne_of_gt (Heap.lt_size (Heap.get?_push_of_some _ e1)))).trans (Heap.get?_push_of_some _ (Heap.get?_push_of_some _ e1))
end
section
variable {X : Cx} {a it : Addr} {tg : Expr} {i : Nat} {pins : List (Addr × Obj)} {s : Shared} {σ : St} {H : Hp} {E : Value → Shared → Prop}
theorem item_list (I : Inv X pins σ H s) (hf : FpOk X pins H it) (st : s.heap.IsListIter it a i) (hg : (Itl X.K a).go i H) :
    wpAny (model X.prog X.w) X.A (pyNext (.ref it)) (fun r s1 => ∃ u, r = some u ∧ wpAny (model X.prog X.w) X.A (letOwnedTupleGo tg (.ref it) u) (fun _ s2 => ∃ x H', Inv X pins σ H' s2 ∧ RelV x u ∧ (Itl X.K a).yld i H x H' ∧ s2.heap.IsListIter it a (i + 1) ∧ H' it = none) E s1) E s := by
  obtain ⟨xs, x, hq, hx⟩ := hg
  obtain ⟨its, rv, p, _⟩ := I.list hq
  obtain ⟨u, hu, ru⟩ := rv.get hx
  refine wpAny_pyNext_list_item st p.isList (x := u) (by simpa using hu) fun g st2 sb => ?_
  have J : Inv X pins σ H { s with heap := g } := I.turned (t' := s.toks) (fun b o hb e => (sb.2 b hb).trans e) hf.1 hf.2.1 hf.2.2.2.1 hf.2.2.2.2.1 hf.2.2.2.2.2
  obtain ⟨o, e, c, d⟩ := id st2
  exact ⟨u, rfl, go_of (s := { s with heap := g }) e c d (by decide) ⟨x, H, J, ru, ⟨rfl, fun ys hy => (congrArg (·[i]?) (I.list_inj hy hq)).trans hx⟩, st2, hf.1⟩⟩
theorem done_list {x1 : Addr} (hot : HotX.HotAt X.A x1 s.heap) (ne : x1 ≠ it) (I : Inv X pins σ H s) (hf : FpOk X pins H it) (st : s.heap.IsListIter it a i) (hs : (Itl X.K a).stop i H) : wpAny (model X.prog X.w) X.A (pyNext (.ref it)) (fun r s1 => r = none ∧ Inv X pins σ H s1) E s := by
  obtain ⟨xs, hq, hx⟩ := hs
  obtain ⟨its, rv, p, _⟩ := I.list hq
  have hl := rv.length
  exact next_end_hot hot st p.isList (by simp; omega) ne fun g eb => ⟨rfl, I.turned (t' := s.toks) (fun b o hb e => eb b o hb e) hf.1 hf.2.1 hf.2.2.2.1 hf.2.2.2.2.1 hf.2.2.2.2.2⟩
end
section
variable {elt t0 i0 : Expr} {ifs0 : List Expr} {scope : Scope} {pos : Pos}
theorem turn1_0 (it acc : Value) (env : Env) : compTurn (.ListComp elt [⟨t0, i0, ifs0, 0⟩] scope pos) 0 it acc env =
    tTurn ifs0 t0 i0 (bdIn (.ListComp elt [⟨t0, i0, ifs0, 0⟩] scope pos) elt 0 it acc env) (again (.compLoop (.ListComp elt [⟨t0, i0, ifs0, 0⟩] scope pos) 0 it acc env)) it env := by rfl
end
section
variable {X : Cx}
theorem lcH_core {pins : List (Addr × Obj)} {s : Shared} {σ : St} {H : Hp} {Q : VK} {elt tg iter : Expr} {ifs : List Expr} {rest : List Comprehension} {scope : Scope} {own : List (Str × Nat)} {vs1 : List Nat} {pos pos' : Pos} {tl : TE} {g : TG} {tt : TT} {tb : Addr → TB} {bd : Addr → Value → Env → Sem Fin} {use : Option (Value → Sem Unit)} {Qf : Value → Shared → Prop}
    {x1 : Addr} {oe : Obj} {ve : Array Value} (hA : X.A.handled = some (.ref x1)) (hpn : (x1, oe) ∈ X.pn) (hde : oe.data = .fields ve) (hcx : ve[2]? = some .none)
    (hT : ∀ D it env, compTurn (.ListComp elt (⟨tg, iter, ifs, 0⟩ :: rest) scope pos) 0 it (.ref D) env = tTurn ifs tg iter (bd D it env) (again (.compLoop (.ListComp elt (⟨tg, iter, ifs, 0⟩ :: rest) scope pos) 0 it (.ref D) env)) it env)
    (hN : X.N.Nodup) (I : Inv X pins σ H s) (he0 : PE X iter tl) (ok : BlkOk X.N X.env.scope scope own) (hv : ∀ i ∈ vs1, i ∈ own.map (·.2))
    (hg : ∀ (s : Shared) (H : Hp) (C : Addr) (cl : List (Str × Addr)) (fp : List Addr), PG (X.blk s H scope (compEnvC scope cl C X.env) fp) tg g) (ht : ∀ (s : Shared) (H : Hp) (C : Addr) (cl : List (Str × Addr)) (fp : List Addr), PTs (X.blk s H scope (compEnvC scope cl C X.env) fp) ifs tt)
    (hb : BdFam X scope bd (.ListComp elt (⟨tg, iter, ifs, 0⟩ :: rest) scope pos) vs1 tb) (hs : ∀ x, foldedSetIterable iter X.env x = pure x)
    (h : tLcN (iList X.K tl) g tt tb (own.map (·.2)) σ H Q)
    (hRR : ∀ D C s' m H', Inv X pins σ H' s' → Q (.ref D) H' → s'.heap.Ns C m → FpOk X pins H' C → compPost (model X.prog X.w) X.A X.xe use Qf (.ref D) C (.ok .next) s') :
    wpAny (model X.prog X.w) X.A (comprehension (.ListComp elt (⟨tg, iter, ifs, 0⟩ :: rest) scope pos) scope X.env pos' (newList []) false (eval iter X.env) use) Qf X.xe s := by
  have hfree : ∀ y ∈ scope.names, y.2 = .free → ∃ c, X.env.cells.lookup y.1 = some c := fun y hy e => by
    rcases ok.free y hy e with k | k
    · exact I.ok.has _ (.inl k)
    · exact I.ok.has _ (.inr k)
  refine wpAny_comprehension_free (use := use) rfl hs (closure_ok hfree) ok.kind (fun y hy e => by rw [ok.uniq y hy, e])
    (thn (he0.run pins s σ H _ I h) fun xv s1 hx => ?_)
  obtain ⟨xvv, H2, I1, rx, la, ela, ⟨lxs, hlq⟩, q⟩ := hx
  subst ela
  cases rx
  obtain ⟨its, rvv, pll, _⟩ := I1.list hlq
  refine wpAny_pyIter_list pll.isList ?_
  generalize hit : s1.heap.objs.size = it
  generalize hs2 : ({ s1 with heap := s1.heap.push _ } : Shared) = s2
  have kp2 : ∀ b o, s1.heap.get? b = some o → s2.heap.get? b = some o := fun b o e => by rw [← hs2]; exact Heap.get?_push_of_some _ e
  have I2 : Inv X pins σ H2 s2 := by rw [← hs2]; exact I1.kept (t' := s1.toks) fun b o e => Heap.get?_push_of_some _ e
  have st2 : s2.heap.IsListIter it la 0 := by rw [← hs2, ← hit]; exact ⟨_, Heap.get?_push_size _ rfl, rfl, rfl⟩
  have f2 : FpOk X pins H2 it := I1.fpOk (Nat.le_of_eq hit) (I1.hok.fresh (Nat.le_of_eq hit))
  have T := turn_list (P := X.prog) (w := X.w) (K := X.K) (tg := tg) la it
  refine wpAny_newObj_type (newEnv_comp ?_) (by show 0 ≤ sizeLine; decide)
  generalize hD : s2.heap.objs.size = D
  have hDn : H2 D = none := I2.hok.fresh (Nat.le_of_eq hD)
  obtain ⟨W, ⟨m0, w0⟩, turn⟩ := q D hDn
  generalize hs3 : ({ s2 with heap := s2.heap.push { cls := .type "list", data := .seq ([] : List Value).toArray } } : Shared) = s3
  have I3 : Inv X pins σ (upd H2 D (.lst [])) s3 := by
    rw [← hs3]
    refine I2.laid (t' := s2.toks) (fun b o e => Heap.get?_push_of_some _ e) (Nat.le_of_eq hD) ⟨Nat.zero_le _, [], 0, .nil, ?_⟩
    rw [← hD]
    exact Heap.get?_push_size _ rfl
  have h3 : s3.heap = s2.heap.push { cls := .type "list", data := .seq ([] : List Value).toArray } := by rw [← hs3]
  have szit : it < s2.heap.objs.size := by
    obtain ⟨o, e, _⟩ := st2
    exact Heap.lt_size e
  have f3 : ∀ b ∈ [it], FpOk X pins (upd H2 D (.lst [])) b ∧ b < s3.heap.objs.size := fun b hb => by
    obtain rfl : b = it := by simpa using hb
    refine ⟨⟨?_, f2.2⟩, by rw [h3, Heap.size_push]; exact Nat.lt_succ_of_lt szit⟩
    rw [upd_ne (by rw [← hD]; exact Nat.ne_of_lt szit)]
    exact f2.1
  have st3 : s3.heap.IsListIter it la 0 := T.keep 0 _ _ st2 fun b _ o e => by rw [h3]; exact Heap.get?_push_of_some _ e
  have I4 := block_start I3 ok hN f3
  have pg := hg s3 (upd H2 D (.lst [])) s3.heap.objs.size (cellsFrom (s3.heap.objs.size + 1) scope.names (cloFrom X.env.cells scope.names [])) [it]
  have pt := ht s3 (upd H2 D (.lst [])) s3.heap.objs.size (cellsFrom (s3.heap.objs.size + 1) scope.names (cloFrom X.env.cells scope.names [])) [it]
  have pb := hb s3 (upd H2 D (.lst [])) s3.heap.objs.size (cellsFrom (s3.heap.objs.size + 1) scope.names (cloFrom X.env.cells scope.names [])) [it] D (.ref it)
  have hT := hT D (.ref it)
  show codeAny _ _ (.compStart (.ListComp elt (⟨tg, iter, ifs, 0⟩ :: rest) scope pos) 0 (.ref it) (.ref D) (compEnvC scope (cellsFrom (s3.heap.objs.size + 1) scope.names (cloFrom X.env.cells scope.names [])) s3.heap.objs.size X.env)) (compPost (model X.prog X.w) X.A X.xe use Qf (.ref D) s3.heap.objs.size) { s3 with heap := pushCells (s3.heap.push { cls := .type "dict", data := .dict #[] }) scope.names }
  have nfp : ∀ b ∈ [it], (upd H2 D (.lst [])) b = none := fun b hb => (f3 b hb).1.1
  obtain ⟨p1, p2, p3, p4, _⟩ := I3.pin (x1, oe) (List.mem_append_left _ hpn)
  have p5 : x1 ∉ frs X.stack := fun hm => (List.mem_cons.mp (I3.stkSub x1 hm)).elim p3 p4
  have p6 : x1 ∉ [it] := fun hm => (f3 x1 hm).1.2.2.2.2.2 (x1, oe) (List.mem_append_left _ hpn) rfl
  have p7 : x1 ≠ it := fun z => p6 (by rw [z]; exact List.mem_cons_self)
  generalize hce : compEnvC scope (cellsFrom (s3.heap.objs.size + 1) scope.names (cloFrom X.env.cells scope.names [])) s3.heap.objs.size X.env = ce at I4 pg pt pb ⊢
  have hT := hT ce
  have cL : ce.locals = s3.heap.objs.size := by subst hce; rfl
  generalize hH3 : upd H2 D (.lst []) = H3 at I3 I4 pg pt pb w0 nfp f3 p2
  generalize hs4 : ({ s3 with heap := pushCells (s3.heap.push { cls := .type "dict", data := .dict #[] }) scope.names } : Shared) = s4 at I4 ⊢
  have st4 : s4.heap.IsListIter it la 0 := T.keep 0 _ _ st3 fun b _ o e => by rw [← hs4]; exact pushCells_keeps _ _ _ _ (Heap.get?_push_of_some _ e)
  have stat : ∀ {σ' : St} {H' : Hp} {s' : Shared}, Inv (X.blk s3 H3 scope ce [it]) [] σ' H' s' → H' it = none → FpOk (X.blk s3 H3 scope ce [it]) [] H' it := fun {σ' H' s'} I' hn =>
    ⟨hn, (I'.ok.exf it List.mem_cons_self).1, I'.ok.exfs it List.mem_cons_self, .inl List.mem_cons_self, fun x c e => (I'.ok.exf it List.mem_cons_self).2 x c e, fun p hp => absurd (show p ∈ ([] : List (Addr × Obj)) ++ [] from hp) (by simp)⟩
  have hotAt : ∀ {σ' : St} {H' : Hp} {s' : Shared}, Inv (X.blk s3 H3 scope ce [it]) [] σ' H' s' → HotX.HotAt X.A x1 s'.heap := fun {σ' H' s'} I' => ⟨hA, oe, ve, I'.base.keep x1 oe p1 p2 p5 p6, hde, hcx⟩
  have loop : codeAny (model X.prog X.w) X.A (.compLoop (.ListComp elt (⟨tg, iter, ifs, 0⟩ :: rest) scope pos) 0 (.ref it) (.ref D) ce) (compPost (model X.prog X.w) X.A X.xe use Qf (.ref D) s3.heap.objs.size) s4 := by
    refine compLoopG hT (fun n s' => ∃ i H', Inv (X.blk s3 H3 scope ce [it]) [] (wipe σ (own.map (·.2))) H' s' ∧ s'.heap.IsListIter it la i ∧ H' it = none ∧ W i n H') ?_ m0 ⟨0, H3, I4, st4, nfp it List.mem_cons_self, w0⟩
    rintro n s5 ⟨i, H5, I5, st5, n5, w5⟩
    rcases turn i n H5 w5 with ⟨stop, qq⟩ | ⟨go, Nx, hNx, step⟩
    · refine thnF (done_list (X := X.blk s3 H3 scope ce [it]) (hotAt I5) p7 I5 (stat I5 n5) st5 stop) fun r s6 ⟨hr, I6⟩ => ?_
      subst hr
      have I7 : Inv X pins σ H5 s6 := I3.call' (ch := [it]) I6.os I6.base I6.hok I6.bare fun b hb => ⟨(f3 b hb).1.2.2.2.1, (f3 b hb).1.2.1, (f3 b hb).1.2.2.2.2.1, (f3 b hb).1.2.2.2.2.2⟩
      have nC : H5 s3.heap.objs.size = none := by
        have z : H5 ce.locals = none := I6.free
        rw [cL] at z
        exact z
      obtain ⟨m, hn, _⟩ := I6.loc
      have hn : s6.heap.Ns ce.locals m := hn
      rw [cL] at hn
      exact hRR D s3.heap.objs.size s6 m H5 I7 qq hn (I3.fpOk (Nat.le_refl _) nC)
    · refine thnF (item_list (X := X.blk s3 H3 scope ce [it]) (tg := tg) I5 (stat I5 n5) st5 go) fun r s6 ⟨u, hr, h6⟩ => ?_
      subst hr
      refine thnF h6 fun _ s7 ⟨x, H7, I7, r7, y7, st7, n7⟩ => ?_
      have I7' := I7.pinned (fp := [it]) (fun b hb => by obtain rfl : b = it := by simpa using hb
                                                         exact stat I7 n7) (T.obj _ _ st7)
      refine thnF (pg.run _ s7 _ H7 x u _ I7' r7 (step x H7 y7)) fun _ s8 ⟨σ8, H8, I8, hw8, q8⟩ => ?_
      refine thnF (pt.run _ s8 σ8 H8 _ I8 q8) fun b s9 ⟨H9, I9, q9⟩ => ?_
      have fin : ∀ {σ9 : St} {s' : Shared} {H' : Hp}, Inv (X.blk s3 H3 scope ce [it]) ([] ++ pinsAt [it] s7.heap) σ9 H' s' → (wipe σ (own.map (·.2))).length = σ9.length → (∀ (j : Nat) v, (wipe σ (own.map (·.2)))[j]? = some (some v) → σ9[j]? = some (some v)) → Nx H' →
          ∃ m, m < n ∧ ∃ i H', Inv (X.blk s3 H3 scope ce [it]) [] (wipe σ (own.map (·.2))) H' s' ∧ s'.heap.IsListIter it la i ∧ H' it = none ∧ W i m H' := fun {σ9 s' H'} I' hl hk nx => by
        obtain ⟨m', hm, w'⟩ := hNx H' nx
        have pin' : ∀ b ∈ [it], ∀ o, s7.heap.get? b = some o → s'.heap.get? b = some o ∧ H' b = none := fun b hb o e =>
          let z := I'.pin (b, o) (List.mem_append_right _ (List.mem_append_right _ (mem_pinsAt hb e)))
          ⟨z.1, z.2.1⟩
        refine ⟨m', hm, i + 1, H', (I'.unpinned (pins := [])).weak hl hk, T.keep (i + 1) _ _ st7 fun b hb o e => (pin' b hb o e).1, ?_, w'⟩
        obtain ⟨o, e, _⟩ := st7
        exact (pin' it List.mem_cons_self o e).2
      have hl8 : (wipe σ (own.map (·.2))).length = σ8.length := by rw [← hw8, wipe_length]
      have hk8 : ∀ (j : Nat) v, (wipe σ (own.map (·.2)))[j]? = some (some v) → σ8[j]? = some (some v) := fun j v e => by
        rw [← hw8] at e
        exact (wipe_some e).1
      cases b with
      | false =>
        simp only [Bool.false_eq_true, if_false] at q9 ⊢
        exact fin I9 hl8 hk8 q9
      | true =>
        simp only [if_true] at q9 ⊢
        refine thnF (pb _ s9 σ8 H9 _ I9 q9) fun f s10 ⟨hf, H10, I10, nx⟩ => ?_
        refine ⟨hf, fin I10 (hl8.trans (wipe_length σ8 vs1).symm) (fun j v e => ?_) nx⟩
        rw [← hw8] at e
        obtain ⟨e1, e2⟩ := wipe_some e
        rw [wipe_out fun z => e2 (hv j z)]
        exact e1
  exact codeAny_compStart_list loop (T.self X.A 0 _ _ _ st4 loop)
theorem pe_lcH {elt tg iter : Expr} {ifs : List Expr} {scope : Scope} {own : List (Str × Nat)} {pos : Pos} {tl : TE} {g : TG} {tt : TT} {te : TE} {x1 : Addr} {oe : Obj} {ve : Array Value} (hA : X.A.handled = some (.ref x1)) (hpn : (x1, oe) ∈ X.pn) (hde : oe.data = .fields ve) (hcx : ve[2]? = some .none)
    (hN : X.N.Nodup) (he0 : PE X iter tl) (ok : BlkOk X.N X.env.scope scope own)
    (hg : ∀ (s : Shared) (H : Hp) (C : Addr) (cl : List (Str × Addr)) (fp : List Addr), PG (X.blk s H scope (compEnvC scope cl C X.env) fp) tg g) (ht : ∀ (s : Shared) (H : Hp) (C : Addr) (cl : List (Str × Addr)) (fp : List Addr), PTs (X.blk s H scope (compEnvC scope cl C X.env) fp) ifs tt)
    (he : ∀ (s : Shared) (H : Hp) (C : Addr) (cl : List (Str × Addr)) (fp : List Addr), PE (X.blk s H scope (compEnvC scope cl C X.env) fp) elt te) (hs : ∀ x, foldedSetIterable iter X.env x = pure x) :
    PE X (.ListComp elt [⟨tg, iter, ifs, 0⟩] scope pos) (tLc (iList X.K tl) g tt te (own.map (·.2))) := by
  refine ⟨fun pins s σ H Q I h => ?_⟩
  rw [eval_ListComp]
  have h : tLcN (iList X.K tl) g tt (tEl te) (own.map (·.2)) σ H Q := h
  refine lcH_core (vs1 := []) (bd := fun D it env => bdIn (.ListComp elt [⟨tg, iter, ifs, 0⟩] scope pos) elt 0 it (.ref D) env) hA hpn hde hcx (fun D it env => turn1_0 it (.ref D) env) hN I he0 ok (fun i z => absurd z List.not_mem_nil) hg ht (fun s H C cl fp D it => pbd_in (he s H C cl fp)) hs h fun D C s' m H' I' q hn f => ⟨m, hn, fun h'' sb => ?_⟩
  obtain ⟨f0, f1, f2, f3, f4, f5⟩ := f
  exact ⟨.ref D, H', I'.turned (t' := s'.toks) (fun b o hb e => (sb.2 b hb).trans e) f0 f1 f3 f4 f5, rfl, q⟩
end
end L2
namespace Mir
open PySem PySem.Spec L2
def pyItemsL : D → M (List D)
  | .lst xs => .ok xs
  | _ => .stk
section
variable {F : Fm} {Γ : Gam} {scope : Scope} {own : List (Str × Nat)} {V L : List Bool} {kd : List (Str × NameKind)} {elt tg iter : Expr} {ifs : List Expr} {pos : Pos} {m : M D} {f : D → M (List D)} {tf : D → Gam → Option Gam} {a : Addr} {cls : Value} {dd : Option Addr}
theorem iv_list (he : EM F iter Γ m) : IvM F (iList F.G.K (cE F iter)) Γ (b1 pyItemsL m) := by
  intro H0 σ S H R hh po
  refine he.c H0 σ S H _ hh ((Po.bind po).imp fun d S1 H1 g1 q1 v r => ?_)
  cases d with
  | lst xs =>
    cases r with
    | lst h r => exact ⟨_, rfl, ⟨_, SqL.of (g1.sub _ _ h)⟩, q1 S1 H1 (Grow.refl g1.sub) _ (it_list (SqL.of h) r)⟩
  | _ => exact False.elim q1
theorem em_lcH (B : BlkF (suiteF F a cls dd) scope own V L kd) (he : EM (suiteF F a cls dd) iter Γ m) (hg : TgM (blkF (suiteF F a cls dd) B) tg tf) (ht : TurnM (blkF (suiteF F a cls dd) B) (wipeΓ Γ (own.map (·.2))) tf ifs elt f)
    (hs : ∀ X, (suiteF F a cls dd).Xs X → ∀ x, foldedSetIterable iter X.env x = pure x := by intros; rfl) : EM (suiteF F a cls dd) (.ListComp elt [⟨tg, iter, ifs, 0⟩] scope pos) Γ (lcM (b1 pyItemsL m) f) := by
  obtain ⟨g, pg, eg⟩ := hg
  refine ⟨_, fun Y hY => ?_, ev_lcI B (iv_list he) (g := g) (fun H0 σ S H v d Γ Γ' Q => eg H0 σ S H v d Γ Γ' Q) ht⟩
  have hn := (suiteF F a cls dd).hN Y hY
  have hK := (suiteF F a cls dd).hK Y hY
  have hk := (suiteF F a cls dd).hkd Y hY
  obtain ⟨X, oe, pn, h, hz, ⟨ve, hve⟩, rfl⟩ := id hY
  rw [← hK]
  exact pe_lcH (x1 := a) (oe := oe) (ve := ve) rfl List.mem_cons_self hve (hz.2.2 ve hve) (by rw [hn]; exact (suiteF F a cls dd).nd) (cE_ok _ hY) (by rw [hn]; exact blk_of (by rw [hk]; exact B.ok)) (fun s H C cl fp => pg _ ⟨_, s, H, C, cl, fp, hY, rfl⟩) (fun s H C cl fp => cP_ok _ ⟨_, s, H, C, cl, fp, hY, rfl⟩) (fun s H C cl fp => cE_ok _ ⟨_, s, H, C, cl, fp, hY, rfl⟩) (hs _ hY)
end
end Mir
namespace Mir
open PySem PySem.Spec L2
def c_l_far (p_pool_here p_posts : D) : Ctl Unit Unit := M.bindC (b1 m_l_named (mlist [.ok p_pool_here, .ok (.int 2), .ok p_posts, .ok (.int 5)])) () fun v1_p => M.bindC (b1 mkTup (mlist [b2 pyIx (.ok v1_p) (.ok (.int 0)), b2 pyIx (.ok v1_p) (.ok (.int 1)), b2 pyIx (.ok v1_p) (.ok (.int 2))])) () fun v2_first => M.bindC (lcM (b1 pyRange1 (mlist [.ok p_posts])) (fun v4_q => elM (b1 isB (b2 (memD true) (.ok v4_q) (.ok v2_first))) (.ok v4_q))) () fun v3_others => M.bindC (b1 m_l_named (mlist [.ok p_pool_here, .ok (.int 7), b1 pyLen (mlist [.ok v3_others]), .ok (.int 2)])) () fun v5_second => M.bindC (b2 pyIx (b1 mkLst (mlist [b2 pyIx (.ok v1_p) (.ok (.int 0)), b2 pyIx (.ok v1_p) (.ok (.int 1)), b2 pyIx (.ok v1_p) (.ok (.int 2))])) (b1 m_l_draw (mlist [.ok p_pool_here, .ok (.int 9), .ok (.int 3)]))) () fun v6_middle => M.bindC (b1 mkLst (mlist [.ok v6_middle, b2 pyIx (.ok v3_others) (b2 pyIx (.ok v5_second) (.ok (.int 0))), b2 pyIx (.ok v3_others) (b2 pyIx (.ok v5_second) (.ok (.int 1)))])) () fun v7_row => (M.bindC (andM (b1 isB (b2 pyGt (b1 pyLen (mlist [.ok v3_others])) (.ok (.int 2)))) (b1 isB (b2 pyEq (b1 m_l_draw (mlist [.ok p_pool_here, .ok (.int 25), .ok (.int 2)])) (.ok (.int 1))))) () fun c => if c = true then (M.bindC (b1 m_l_named (mlist [.ok p_pool_here, .ok (.int 26), b1 pyLen (mlist [.ok v3_others]), .ok (.int 3)])) () fun v9_third => M.bindC (b1 mkLst (mlist [b2 pyIx (.ok v3_others) (b2 pyIx (.ok v9_third) (.ok (.int 0))), b2 pyIx (.ok v3_others) (b2 pyIx (.ok v9_third) (.ok (.int 1))), b2 pyIx (.ok v3_others) (b2 pyIx (.ok v9_third) (.ok (.int 2)))])) () fun v10_row => .nx v10_row) else (.nx v7_row) : Ctl Unit D).bind fun (v8_j : D) => M.bindC (b1 m_l_draw (mlist [.ok p_pool_here, .ok (.int 29), .ok (.int 3)])) () fun v11_turn => M.bindC (b1 mkLst (mlist [.ok v2_first, b1 mkTup (mlist [b2 pyIx (.ok v8_j) (.ok v11_turn), b2 pyIx (.ok v8_j) (b2 pySub (.ok v11_turn) (.ok (.int 1))), b2 pyIx (.ok v8_j) (b2 pySub (.ok v11_turn) (.ok (.int 2)))])])) () Ctl.ret
def m_l_far : List D → M D := ar2 c_l_far
def c_l_possible (p_pool_here p_posts p_turns_here : D) : Ctl Unit Unit := M.bindC (b1 m_l_ways (mlist [.ok p_turns_here, .ok p_posts])) () fun v1_ways_here => M.bindC (b1 mkLst (mlist [])) () fun v2_pairs => M.bindC (b1 pyItems (.ok v1_ways_here)) () fun v11_ds => (forC (X := Unit) (S := D) (fun v4_one (v3_j : D) => M.bindC (b1 pyItems (.ok v1_ways_here)) () fun v10_ds => (forC (X := Unit) (S := D) (fun v6_two (v5_j : D) => (M.bindC (b1 isB (b2 pyLt (b1 pyLen (mlist [lcM (b1 pyItems (.ok v4_one)) (fun v7_q => elM (b1 isB (b2 (memD false) (.ok v7_q) (.ok v6_two))) (.ok v7_q))])) (.ok (.int 2)))) () fun c => if c = true then (M.bindC (appM v5_j (b1 mkLst (mlist [.ok v4_one, .ok v6_two]))) () fun v9_pairs => .nx v9_pairs) else (.nx v5_j) : Ctl Unit D).bind fun (v8_j : D) => .nx v8_j) v10_ds v3_j).bind fun (v5_j : D) => .nx v5_j) v11_ds v2_pairs).bind fun (v3_j : D) => M.bindC (b1 isB (b2 pyEq (.ok v3_j) (b1 mkLst (mlist [])))) () fun c => if c = true then (M.bindC (b1 m_l_far (mlist [.ok p_pool_here, .ok p_posts])) () Ctl.ret) else M.bindC (b2 pyIx (.ok v3_j) (b1 m_l_draw (mlist [.ok p_pool_here, .ok (.int 2), b1 pyLen (mlist [.ok v3_j])]))) () Ctl.ret
def m_l_possible : List D → M D := ar3 c_l_possible
def c_l_walked_fc7 (p_table p_row : D) : Ctl Unit Unit := M.bindC (b1 mkLst (mlist [])) () fun v1_got => (Ctl.tryC (X := Unit) (Y := D) (S := D) (genC 6 (M.bind (mlist [.ok p_table, .ok p_row]) fun ds => .ok (m_walk ds)) fun v7_ds v8_fin => (forC (X := D) (S := D) (fun v5_step (v4_j : D) => Ctl.nox (M.bindC (appM v4_j (.ok v5_step)) v4_j fun v6_got => .nx v6_got)) v7_ds v1_got).bind (finC (X := D) (fun (v4_j : D) => v4_j) v8_fin fun (v4_j : D) => .nx v4_j)) [false, false, false, false, true, false] (fun (e : Exc) (v2_y : D) => M.bindC (lcM (b1 pyItemsL (.ok v2_y)) (fun v9_step => elM (.ok true) (b1 (pyFld 1 "letters") (.ok v9_step)))) () Ctl.ret)).bind fun (v3_j : D) => M.bindC (lcM (b1 pyItems (.ok v3_j)) (fun v10_step => elM (.ok true) (b1 (pyFld 1 "letters") (.ok v10_step)))) () Ctl.ret
def m_l_walked_fc7 : List D → M D := ar2 c_l_walked_fc7
def c_law_k28 (p_script : D) : Ctl Unit Unit := M.bindC (b1 m_l_pool (mlist [.ok p_script])) () fun v1_pool_here => M.bindC (b2 pyAdd (.ok (.int 5)) (b1 m_l_draw (mlist [.ok v1_pool_here, .ok (.int 0), .ok (.int 4)]))) () fun v2_posts => M.bindC (b1 m_l_turns (mlist [b1 m_l_places (mlist [.ok v1_pool_here, .ok (.int 30), .ok v2_posts])])) () fun v3_turns_here => M.bindC (b1 (mkO 1 m_Table___init) (mlist [b1 m_l_letters (mlist [.ok v3_turns_here, .ok v2_posts])])) () fun v4_table => (M.bindC (b1 isB (b2 pyEq (b1 m_l_draw (mlist [.ok v1_pool_here, .ok (.int 1), .ok (.int 2)])) (.ok (.int 0)))) () fun c => if c = true then (M.bindC (b1 m_l_possible (mlist [.ok v1_pool_here, .ok v2_posts, .ok v3_turns_here])) () fun v6_pair => .nx v6_pair) else (M.bindC (b1 m_l_far (mlist [.ok v1_pool_here, .ok v2_posts])) () fun v7_pair => .nx v7_pair) : Ctl Unit D).bind fun (v5_j : D) => M.bindC (b2 pyIx (.ok v5_j) (.ok (.int 0))) () fun v8_one => M.bindC (b2 pyIx (.ok v5_j) (.ok (.int 1))) () fun v9_two => M.bindC (b1 mkLst (mlist [b1 m_l_can_pass (mlist [.ok v3_turns_here, .ok v2_posts, b2 pyIx (.ok v8_one) (.ok (.int 0)), b2 pyIx (.ok v8_one) (.ok (.int 1)), b2 pyIx (.ok v8_one) (.ok (.int 2))]), b1 m_l_can_pass (mlist [.ok v3_turns_here, .ok v2_posts, b2 pyIx (.ok v9_two) (.ok (.int 0)), b2 pyIx (.ok v9_two) (.ok (.int 1)), b2 pyIx (.ok v9_two) (.ok (.int 2))])])) () fun v10_can => M.bindC (b1 m_l_walked_fc7 (mlist [.ok v4_table, b1 mkLst (mlist [.ok v8_one, .ok v9_two])])) () fun v11_ahead => M.bindC (b1 m_l_walked_fc7 (mlist [.ok v4_table, b1 mkLst (mlist [.ok v9_two, .ok v8_one])])) () fun v12_behind => M.bindC (b1 isB (b2 pyNe (b1 pyLen (mlist [.ok v11_ahead])) (b2 pyAdd (b2 pyAdd (.ok (.int 1)) (b1 pyInt (mlist [b2 pyIx (.ok v10_can) (.ok (.int 0))]))) (b1 pyInt (mlist [andV (b2 pyIx (.ok v10_can) (.ok (.int 0))) (b2 pyIx (.ok v10_can) (.ok (.int 1)))]))))) () fun c => if c = true then (M.bindC (.ok (.bl false)) () Ctl.ret) else M.bindC (b1 isB (b2 pyNe (b1 pyLen (mlist [.ok v12_behind])) (b2 pyAdd (b2 pyAdd (.ok (.int 1)) (b1 pyInt (mlist [b2 pyIx (.ok v10_can) (.ok (.int 1))]))) (b1 pyInt (mlist [andV (b2 pyIx (.ok v10_can) (.ok (.int 0))) (b2 pyIx (.ok v10_can) (.ok (.int 1)))]))))) () fun c => if c = true then (M.bindC (.ok (.bl false)) () Ctl.ret) else M.bindC (andM (b1 pyTruth (b2 pyIx (.ok v10_can) (.ok (.int 0)))) (andM (b1 pyTruth (b2 pyIx (.ok v10_can) (.ok (.int 1)))) (orM (b1 isB (b2 pyNe (b2 pyIx (.ok v11_ahead) (.ok (.int 2))) (b2 pyIx (.ok v12_behind) (.ok (.int 2))))) (orM (b1 isB (b2 pyEq (b2 pyIx (.ok v11_ahead) (.ok (.int 1))) (b2 pyIx (.ok v11_ahead) (.ok (.int 2))))) (b1 isB (b2 pyEq (b2 pyIx (.ok v11_ahead) (.ok (.int 1))) (b2 pyIx (.ok v12_behind) (.ok (.int 1))))))))) () fun c => if c = true then (M.bindC (.ok (.bl false)) () Ctl.ret) else M.bindC (andM (b1 pyTruth (b2 pyIx (.ok v10_can) (.ok (.int 0)))) (b1 isB (b2 pyNe (b1 pyLen (mlist [b1 m_l_walked_fc7 (mlist [.ok v4_table, b1 mkLst (mlist [.ok v8_one, .ok v8_one, .ok v9_two])])])) (b2 pyAdd (.ok (.int 3)) (b1 pyInt (mlist [b2 pyIx (.ok v10_can) (.ok (.int 1))])))))) () fun c => if c = true then (M.bindC (.ok (.bl false)) () Ctl.ret) else M.bindC (orV (b2 pyGt (.ok v2_posts) (.ok (.int 5))) (b2 pyIs (b1 m_parted (mlist [.ok (.int 5), b1 mkLst (mlist [.ok v8_one, .ok v9_two]), b1 mkLst (mlist [.ok v9_two, .ok v8_one])])) (.ok .non))) () Ctl.ret
def m_law_k28 : List D → M D := ar1 c_law_k28
end Mir
namespace Mir
open PySem PySem.Spec L2
theorem tryC_exn28 {X Y S : Type} {e : Exc} {x : Y} {tab : List Bool} {h : Exc → Y → Ctl X S} {d : D} (ht : tab[e.c]? = some true) (hh : h e x = .ret d) : Ctl.tryC (.exn e x) tab h = .ret d := by
  unfold Ctl.tryC
  dsimp only
  rw [if_pos ht, hh]
section
variable {n : Nat} {t : Tn} {p q : T3}
theorem wkA (t : Tn) (ts : List Tn) (hl : ts.length < 100000) : (forC (X := D) (S := D) (fun v5_step (v4_j : D) => Ctl.nox (M.bindC (appM v4_j (.ok v5_step)) v4_j fun v6_got => .nx v6_got)) (ts.map (tabD n)) (D.lst []) : Ctl D D) = .nx (D.lst (ts.map (tabD n))) := by
  have := walk_list (n := n) (t := t) (ps := []) ts [] (by simpa using hl)
  rw [List.nil_append] at this
  exact this
theorem walked_ok (T : Tb n t) {ps : List T3} (h : ∀ p ∈ ps, p ∈ trp n) (hl : ps.length < 1000) : m_l_walked_fc7 [tabD n t, t3sD ps] = .ok (walkD (t :: (wkT n t ps).1) n) := by
  show (c_l_walked_fc7 (tabD n t) (t3sD ps)).toM = _
  unfold c_l_walked_fc7
  have hw := wk_len (n := n) ps t
  have ew : (M.bind (mlist [.ok (tabD n t), .ok (t3sD ps)]) fun ds => M.ok (m_walk ds)) = .ok (.don ((t :: (wkT n t ps).1).map (tabD n)) ((wkT n t ps).2.map obsE)) := by
    show M.ok (m_walk [tabD n t, t3sD ps]) = _
    rw [walk_ok07 T h]
    rfl
  have el := wkA (n := n) t (t :: (wkT n t ps).1) (by rw [List.length_cons]; omega)
  have eg : ∀ i : M (List D), i = .ok ((t :: (wkT n t ps).1).map (tabD n)) → lcM i (fun v => elM (.ok true) (b1 (pyFld 1 "letters") (.ok v))) = .ok (walkD (t :: (wkT n t ps).1) n) := fun i hi =>
    compG_map (e := fun v => b1 (pyFld 1 "letters") (.ok v)) (f := fun u => strD (lw n u)) (tabD n) (l := t :: (wkT n t ps).1) hi (by rw [List.length_cons]; omega) fun u _ => by rw [b1_ok, fld_letters]
  rw [show b1 mkLst (mlist []) = .ok (.lst []) from rfl, bindC_ok, ew]
  generalize (t :: (wkT n t ps).1) = ts at *
  cases (wkT n t ps).2 with
  | none =>
    show (Ctl.bind (Ctl.tryC (X := Unit) (Y := D) (S := D) ((forC (X := D) (S := D) (fun v5_step (v4_j : D) => Ctl.nox (M.bindC (appM v4_j (.ok v5_step)) v4_j fun v6_got => .nx v6_got)) (ts.map (tabD n)) (.lst [])).bind (finC (X := D) (fun (v4_j : D) => v4_j) none fun (v4_j : D) => .nx v4_j)) _ _) _).toM = _
    rw [el]
    show (M.bindC (lcM (b1 pyItems (.ok (.lst (ts.map (tabD n))))) (fun v10_step => elM (.ok true) (b1 (pyFld 1 "letters") (.ok v10_step)))) () Ctl.ret : Ctl Unit Unit).toM = _
    rw [eg (b1 pyItems (.ok (.lst (ts.map (tabD n))))) rfl]
    rfl
  | some d =>
    show (Ctl.bind (Ctl.tryC (X := Unit) (Y := D) (S := D) ((forC (X := D) (S := D) (fun v5_step (v4_j : D) => Ctl.nox (M.bindC (appM v4_j (.ok v5_step)) v4_j fun v6_got => .nx v6_got)) (ts.map (tabD n)) (.lst [])).bind (finC (X := D) (fun (v4_j : D) => v4_j) (some (obsE d)) fun (v4_j : D) => .nx v4_j)) _ fun (e : Exc) (v2_y : D) => M.bindC (lcM (b1 pyItemsL (.ok v2_y)) (fun v9_step => elM (.ok true) (b1 (pyFld 1 "letters") (.ok v9_step)))) () Ctl.ret) _).toM = _
    rw [el]
    have e2 : (Ctl.tryC (X := Unit) (Y := D) (S := D) (((.nx (D.lst (ts.map (tabD n))) : Ctl D D)).bind (finC (X := D) (fun (v4_j : D) => v4_j) (some (obsE d)) fun (v4_j : D) => .nx v4_j)) [false, false, false, false, true, false] fun (e : Exc) (v2_y : D) => M.bindC (lcM (b1 pyItemsL (.ok v2_y)) (fun v9_step => elM (.ok true) (b1 (pyFld 1 "letters") (.ok v9_step)))) () Ctl.ret) = .ret (walkD ts n) := by
      exact tryC_exn28 (e := obsE d) (x := D.lst (ts.map (tabD n))) rfl (by rw [eg (b1 pyItemsL (.ok (.lst (ts.map (tabD n))))) rfl]; rfl)
    rw [e2]
    rfl
theorem walkD_len {ts : List Tn} : b1 pyLen (mlist [.ok (walkD ts n)]) = .ok (.int (ts.length : Nat)) := by
  rw [c1 (m := pyLen)]
  show M.ok (D.int ((ts.map _).length : Nat)) = _
  rw [List.length_map]
theorem walkD_ix {ts : List Tn} {k : Nat} {u : Tn} (h : ts[k]? = some u) : b2 pyIx (.ok (walkD ts n)) (.ok (.int (k : Nat))) = .ok (strD (lw n u)) := by
  rw [b2_ok]
  show ofOpt (atI (ts.map fun t => strD (lw n t)) ((k : Nat) : Int)) = _
  rw [atI_nat (x := strD (lw n u)) (by rw [List.getElem?_map, h]; rfl)]
  rfl
theorem can_t3 (h8 : n ≤ 8) (hp : p ∈ trp n) : b1 m_l_can_pass (mlist [.ok (.dct (turnsK n t)), .ok (.int (n : Nat)), b2 pyIx (.ok (t3D p)) (.ok (.int 0)), b2 pyIx (.ok (t3D p)) (.ok (.int 1)), b2 pyIx (.ok (t3D p)) (.ok (.int 2))]) = .ok (.bl (cnT t n p)) := by
  obtain ⟨h1, h2, h3, h4, h5, h6⟩ := mem_trp.mp hp
  rw [show b2 pyIx (.ok (t3D p)) (.ok (.int 0)) = .ok (.int (p.1 : Nat)) from rfl, show b2 pyIx (.ok (t3D p)) (.ok (.int 1)) = .ok (.int (p.2.1 : Nat)) from rfl, show b2 pyIx (.ok (t3D p)) (.ok (.int 2)) = .ok (.int (p.2.2 : Nat)) from rfl, c5 (m := m_l_can_pass)]
  exact can_ok h8 h1 h2 h3 h4 h5 h6
theorem list_two {l : List Nat} {x y : Nat} (hx : x ∈ l) (hy : y ∈ l) (n : x ≠ y) : 2 ≤ l.length := by
  match l, hx, hy with
  | [z], hx, hy => exact absurd ((List.mem_singleton.mp hx).trans (List.mem_singleton.mp hy).symm) n
  | _ :: _ :: _, _, _ => simp
theorem far_of {a b c : Nat} {q : T3} {m x y : Nat} (hq : ∀ z, inT z q → z = m ∨ z = x ∨ z = y) (hx : x ≠ a ∧ x ≠ b ∧ x ≠ c) (hy : y ≠ a ∧ y ≠ b ∧ y ≠ c) : Far (a, b, c) q := fun u v n hu hv hu' hv' => by
  have h1 : u = a ∨ u = b ∨ u = c := hu
  have h2 : v = a ∨ v = b ∨ v = c := hv
  have h3 := hq u hu'
  have h4 := hq v hv'
  omega
theorem rowT {n m x y : Nat} (hm : m < n) (hx : x < n) (hy : y < n) (n1 : m ≠ x) (n2 : m ≠ y) (n3 : x ≠ y) (d : Nat) (hd : d < 3) : ∃ q ∈ trp n, (∀ z, inT z q → z = m ∨ z = x ∨ z = y) ∧ b1 mkTup (mlist [b2 pyIx (.ok (natsL [m, x, y])) (.ok (.int (d : Nat))), b2 pyIx (.ok (natsL [m, x, y])) (b2 pySub (.ok (.int (d : Nat))) (.ok (.int 1))), b2 pyIx (.ok (natsL [m, x, y])) (b2 pySub (.ok (.int (d : Nat))) (.ok (.int 2)))]) = .ok (t3D q) := by
  have : d = 0 ∨ d = 1 ∨ d = 2 := by omega
  rcases this with rfl | rfl | rfl
  · exact ⟨(m, y, x), mem_trp.mpr ⟨hm, hy, hx, n2, n1, Ne.symm n3⟩, fun z h => by rcases h with h | h | h <;> simp_all, rfl⟩
  · exact ⟨(x, m, y), mem_trp.mpr ⟨hx, hm, hy, Ne.symm n1, n3, n2⟩, fun z h => by rcases h with h | h | h <;> simp_all, rfl⟩
  · exact ⟨(y, x, m), mem_trp.mpr ⟨hy, hx, hm, Ne.symm n3, Ne.symm n2, Ne.symm n1⟩, fun z h => by rcases h with h | h | h <;> simp_all, rfl⟩
theorem pair_lst {a b : D} : b1 mkLst (mlist [.ok a, .ok b]) = .ok (.lst [a, b]) := rfl
theorem nodup5 {a b c d e : Nat} (h : [a, b, c, d, e].Nodup) : (a ≠ b ∧ a ≠ c ∧ b ≠ c) ∧ (d ≠ a ∧ d ≠ b ∧ d ≠ c) ∧ (e ≠ a ∧ e ≠ b ∧ e ≠ c) ∧ d ≠ e := by
  simp only [List.nodup_cons, List.mem_cons, List.not_mem_nil, or_false, not_or] at h
  obtain ⟨⟨h1, h2, h3, h4⟩, ⟨h5, h6, h7⟩, ⟨h8, h9⟩, h10, _⟩ := h
  exact ⟨⟨h1, h2, h5⟩, ⟨Ne.symm h3, Ne.symm h6, Ne.symm h8⟩, ⟨Ne.symm h4, Ne.symm h7, Ne.symm h9⟩, h10⟩
theorem ix_app {l : List Nat} {k : Nat} (h : k < l.length) : b2 pyIx (.ok (natsL l)) (.ok (.int (k : Nat))) = .ok (.int (l[k] : Nat)) := by rw [b2_ok, ix_nats h]
theorem far_ok (l : List Int) {n : Nat} (h5 : 5 ≤ n) (h8 : n ≤ 8) : ∃ p ∈ trp n, ∃ q ∈ trp n, Far p q ∧ m_l_far [intsD l, .int (n : Nat)] = .ok (.lst [t3D p, t3D q]) := by
  have main : RetIs (c_l_far (intsD l) (.int (n : Nat))) fun d => ∃ p ∈ trp n, ∃ q ∈ trp n, Far p q ∧ d = .lst [t3D p, t3D q] := by
    unfold c_l_far
    obtain ⟨L, eL, NL⟩ := named_ok l 2 n 5 h5 h8
    obtain ⟨a, b, c, d, e, rfl⟩ : ∃ a b c d e, L = [a, b, c, d, e] := by
      have := NL.len
      rcases L with _ | ⟨a, _ | ⟨b, _ | ⟨c, _ | ⟨d, _ | ⟨e, _ | _⟩⟩⟩⟩⟩ <;> first | exact ⟨a, b, c, d, e, rfl⟩ | (exfalso; simp at this)
    obtain ⟨⟨ab, ac, bc⟩, hd, he, de⟩ := nodup5 NL.nd
    have la := NL.lt a (by simp)
    have lb := NL.lt b (by simp)
    have lc := NL.lt c (by simp)
    have ld := NL.lt d (by simp)
    have le := NL.lt e (by simp)
    have hp : ((a, b, c) : T3) ∈ trp n := mem_trp.mpr ⟨la, lb, lc, ab, ac, bc⟩
    rw [c4 (m := m_l_named), show m_l_named [intsD l, .int 2, .int (n : Nat), .int 5] = _ from eL, bindC_ok, show b1 mkTup (mlist [b2 pyIx (.ok (natsL [a, b, c, d, e])) (.ok (.int 0)), b2 pyIx (.ok (natsL [a, b, c, d, e])) (.ok (.int 1)), b2 pyIx (.ok (natsL [a, b, c, d, e])) (.ok (.int 2))]) = .ok (t3D (a, b, c)) from rfl, bindC_ok]
    have eO := filter_comp (n := n) (W := fun v4_q => b1 isB (b2 (memD true) (.ok v4_q) (.ok (t3D (a, b, c))))) (f := fun x => decide (x ≠ a ∧ x ≠ b ∧ x ≠ c)) (by omega) fun x _ => by
      have := mem_no3 (d := x) (a := a) (b := b) (c := c)
      rw [tup3] at this
      rw [show (t3D (a, b, c)) = .tup [.int (a : Nat), .int (b : Nat), .int (c : Nat)] from rfl, this, b1_ok, isB_bl]
    generalize hO : (List.range n).filter (fun x => decide (x ≠ a ∧ x ≠ b ∧ x ≠ c)) = O at eO
    have mO : ∀ x, x ∈ O ↔ x < n ∧ x ≠ a ∧ x ≠ b ∧ x ≠ c := fun x => by rw [← hO, List.mem_filter, List.mem_range, decide_eq_true_eq]
    have ndO : O.Nodup := by rw [← hO]; exact List.nodup_range.filter _
    have lO : O.length ≤ 8 := by
      rw [← hO]
      have := List.length_filter_le (fun x => decide (x ≠ a ∧ x ≠ b ∧ x ≠ c)) (List.range n)
      rw [List.length_range] at this
      omega
    have l2 : 2 ≤ O.length := list_two ((mO d).mpr ⟨ld, hd⟩) ((mO e).mpr ⟨le, he⟩) de
    rw [eO, bindC_ok, len_nats]
    obtain ⟨S, eS, NS⟩ := named_ok l 7 O.length 2 l2 lO
    obtain ⟨s0, s1, rfl⟩ : ∃ x y, S = [x, y] := by
      have := NS.len
      rcases S with _ | ⟨x, _ | ⟨y, _ | _⟩⟩ <;> first | exact ⟨x, y, rfl⟩ | (exfalso; simp at this)
    have k0 := NS.lt s0 (by simp)
    have k1 := NS.lt s1 (by simp)
    have k01 : s0 ≠ s1 := by
      have := NS.nd
      simp only [List.nodup_cons, List.mem_singleton] at this
      exact this.1
    have inj : ∀ {i j : Nat} (hi : i < O.length) (hj : j < O.length), i ≠ j → O[i] ≠ O[j] := fun hi hj h e => h (nodup_at ndO hi hj e)
    have inO : ∀ {i : Nat} (hi : i < O.length), O[i] < n ∧ O[i] ≠ a ∧ O[i] ≠ b ∧ O[i] ≠ c := fun hi => (mO _).mp (List.getElem_mem hi)
    obtain ⟨m9, e9, h9⟩ := draw_i l 9 3 (by decide) (kk := 9) (mm := 3) rfl rfl
    have eM : ∃ m, (m = a ∨ m = b ∨ m = c) ∧ b2 pyIx (b1 mkLst (mlist [b2 pyIx (.ok (natsL [a, b, c, d, e])) (.ok (.int 0)), b2 pyIx (.ok (natsL [a, b, c, d, e])) (.ok (.int 1)), b2 pyIx (.ok (natsL [a, b, c, d, e])) (.ok (.int 2))])) (b1 m_l_draw (mlist [.ok (intsD l), .ok (.int 9), .ok (.int 3)])) = .ok (.int (m : Nat)) := by
      rw [e9]
      have : m9 = 0 ∨ m9 = 1 ∨ m9 = 2 := by omega
      rcases this with rfl | rfl | rfl
      · exact ⟨a, .inl rfl, rfl⟩
      · exact ⟨b, .inr (.inl rfl), rfl⟩
      · exact ⟨c, .inr (.inr rfl), rfl⟩
    obtain ⟨m, hm, eM⟩ := eM
    have lm : m < n := by rcases hm with rfl | rfl | rfl <;> assumption
    rw [c4 (m := m_l_named), show m_l_named [intsD l, .int 7, .int (O.length : Nat), .int 2] = _ from eS, bindC_ok, eM, bindC_ok, show b2 pyIx (.ok (natsL [s0, s1])) (.ok (.int 0)) = .ok (.int (s0 : Nat)) from rfl, show b2 pyIx (.ok (natsL [s0, s1])) (.ok (.int 1)) = .ok (.int (s1 : Nat)) from rfl, ix_app k0, ix_app k1, show b1 mkLst (mlist [.ok (.int (m : Nat)), .ok (.int (O[s0] : Nat)), .ok (.int (O[s1] : Nat))]) = .ok (natsL [m, O[s0], O[s1]]) from rfl, bindC_ok]
    refine NxIs.ret (P := fun r => ∃ u x y, r = natsL [u, x, y] ∧ u < n ∧ x < n ∧ y < n ∧ u ≠ x ∧ u ≠ y ∧ x ≠ y ∧ (x ≠ a ∧ x ≠ b ∧ x ≠ c) ∧ (y ≠ a ∧ y ≠ b ∧ y ≠ c)) ?_ ?_
    · have base : NxIs (.nx (natsL [m, O[s0], O[s1]]) : Ctl Unit D) (fun r => ∃ u x y, r = natsL [u, x, y] ∧ u < n ∧ x < n ∧ y < n ∧ u ≠ x ∧ u ≠ y ∧ x ≠ y ∧ (x ≠ a ∧ x ≠ b ∧ x ≠ c) ∧ (y ≠ a ∧ y ≠ b ∧ y ≠ c)) := by
        have h0 := inO k0
        have h1 := inO k1
        refine .mk ⟨m, _, _, rfl, lm, h0.1, h1.1, ?_, ?_, inj k0 k1 k01, h0.2, h1.2⟩
        · rcases hm with rfl | rfl | rfl
          · exact Ne.symm h0.2.1
          · exact Ne.symm h0.2.2.1
          · exact Ne.symm h0.2.2.2
        · rcases hm with rfl | rfl | rfl
          · exact Ne.symm h1.2.1
          · exact Ne.symm h1.2.2.1
          · exact Ne.symm h1.2.2.2
      obtain ⟨m25, e25, _⟩ := draw_i l 25 2 (by decide) (kk := 25) (mm := 2) rfl rfl
      rw [b2_ok (f := pyGt), gt_ii, b1_ok (f := isB), isB_bl, andM_ok]
      by_cases g2 : ((O.length : Nat) : Int) > 2
      · rw [if_pos (decide_eq_true g2), e25, b2_ok (f := pyEq), eq_ii, b1_ok (f := isB), isB_bl, bindC_ok]
        by_cases g3 : ((m25 : Nat) : Int) = 1
        · rw [if_pos (decide_eq_true g3)]
          obtain ⟨R, eR, NR⟩ := named_ok l 26 O.length 3 (by omega) lO
          obtain ⟨r0, r1, r2, rfl⟩ : ∃ x y z, R = [x, y, z] := by
            have := NR.len
            rcases R with _ | ⟨x, _ | ⟨y, _ | ⟨z, _ | _⟩⟩⟩ <;> first | exact ⟨x, y, z, rfl⟩ | (exfalso; simp at this)
          obtain ⟨n1, n2, n3⟩ := nd3 NR.nd
          have j0 := NR.lt r0 (by simp)
          have j1 := NR.lt r1 (by simp)
          have j2 := NR.lt r2 (by simp)
          have h0 := inO j0
          have h1 := inO j1
          have h2 := inO j2
          rw [c4 (m := m_l_named), show m_l_named [intsD l, .int 26, .int (O.length : Nat), .int 3] = _ from eR, bindC_ok, show b2 pyIx (.ok (natsL [r0, r1, r2])) (.ok (.int 0)) = .ok (.int (r0 : Nat)) from rfl, show b2 pyIx (.ok (natsL [r0, r1, r2])) (.ok (.int 1)) = .ok (.int (r1 : Nat)) from rfl, show b2 pyIx (.ok (natsL [r0, r1, r2])) (.ok (.int 2)) = .ok (.int (r2 : Nat)) from rfl, ix_app j0, ix_app j1, ix_app j2, show b1 mkLst (mlist [.ok (.int (O[r0] : Nat)), .ok (.int (O[r1] : Nat)), .ok (.int (O[r2] : Nat))]) = .ok (natsL [O[r0], O[r1], O[r2]]) from rfl, bindC_ok]
          exact .mk ⟨_, _, _, rfl, h0.1, h1.1, h2.1, inj j0 j1 n1, inj j0 j2 n2, inj j1 j2 n3, h1.2, h2.2⟩
        · rw [if_neg (by simpa using g3)]
          exact base
      · rw [if_neg (by simpa using g2), bindC_ok, if_neg Bool.false_ne_true]
        exact base
    · rintro r ⟨u, x, y, rfl, hu, hx, hy, n1, n2, n3, xx, yy⟩
      obtain ⟨m29, e29, h29⟩ := draw_i l 29 3 (by decide) (kk := 29) (mm := 3) rfl rfl
      obtain ⟨q, hq, hs, eq⟩ := rowT hu hx hy n1 n2 n3 m29 h29
      rw [e29, bindC_ok, eq, pair_lst, bindC_ok]
      exact .mk ⟨_, hp, q, hq, far_of hs xx yy, rfl⟩
  obtain ⟨d, e, p, hp, q, hq, hf, rfl⟩ := main
  refine ⟨p, hp, q, hq, hf, ?_⟩
  show (c_l_far (intsD l) (.int (n : Nat))).toM = _
  rw [e]
  rfl
def comB (p : T3) (x : Nat) : Bool := decide (x = p.1 ∨ x = p.2.1 ∨ x = p.2.2)
theorem mem_t28 {x : Nat} {q : T3} : b1 isB (b2 (memD false) (.ok (.int (x : Nat))) (.ok (t3D q))) = .ok (comB q x) := by
  rw [mem_t3, b1_ok, isB_bl]
  rfl
theorem com_len {p q : T3} : b1 pyLen (mlist [lcM (b1 pyItems (.ok (t3D p))) (fun v7_q => elM (b1 isB (b2 (memD false) (.ok v7_q) (.ok (t3D q)))) (.ok v7_q))]) = .ok (.int ((([p.1, p.2.1, p.2.2].filter (comB q)).length : Nat) : Int)) := by
  rw [compF_map (f := comB q) (fun x : Nat => D.int (x : Nat)) (i := b1 pyItems (.ok (t3D p))) (l := [p.1, p.2.1, p.2.2]) rfl (by simp) fun x _ => mem_t28, c1 (m := pyLen)]
  show M.ok (D.int ((List.map _ _).length : Nat)) = _
  rw [List.length_map]
theorem com_far {p q : T3} (n1 : p.1 ≠ p.2.1) (n2 : p.1 ≠ p.2.2) (n3 : p.2.1 ≠ p.2.2) (h : ([p.1, p.2.1, p.2.2].filter (comB q)).length < 2) : Far p q := fun x y n hx hy hx' hy' => by
  have key : ∀ z, inT z p → inT z q → z ∈ [p.1, p.2.1, p.2.2].filter (comB q) := fun z h1 h2 => List.mem_filter.mpr ⟨by rcases h1 with h | h | h <;> rw [h] <;> simp, decide_eq_true h2⟩
  have := list_two (key x hx hx') (key y hy hy') n
  omega
def pairD (x : T3 × T3) : D := .lst [t3D x.1, t3D x.2]
theorem pairs_std (l : List (T3 × T3)) : stdD (.lst (l.map pairD)) = true ∧ depD (.lst (l.map pairD)) ≤ 64 := by
  have h : ∀ d ∈ l.map pairD, stdD d = true ∧ depD d = 2 := fun d hd => by
    obtain ⟨x, _, rfl⟩ := List.mem_map.mp hd
    exact ⟨rfl, rfl⟩
  refine ⟨?_, ?_⟩
  · simp only [stdD]
    exact stdDs_all fun d hd => (h d hd).1
  · have := depDs_le (k := 2) fun d hd => by rw [(h d hd).2]; exact Nat.le_refl _
    simp only [depD]
    omega
theorem possible_ok28 (l : List Int) {n : Nat} {t : Tn} (h5 : 5 ≤ n) (T : Tb n t) : ∃ p ∈ trp n, ∃ q ∈ trp n, Far p q ∧ m_l_possible [intsD l, .int (n : Nat), .dct (turnsK n t)] = .ok (.lst [t3D p, t3D q]) := by
  have h8 := T.hi
  have main : RetIs (c_l_possible (intsD l) (.int (n : Nat)) (.dct (turnsK n t))) fun d => ∃ p ∈ trp n, ∃ q ∈ trp n, Far p q ∧ d = .lst [t3D p, t3D q] := by
    unfold c_l_possible
    have wl := ways_len (t := t) h8
    have hw : ∀ x ∈ waysL t n, x ∈ trp n := fun x hx => (way_trp T hx).1
    rw [c2 (m := m_l_ways), ways_ok h8, bindC_ok, show b1 mkLst (mlist []) = .ok (.lst []) from rfl, bindC_ok, show b1 pyItems (.ok (t3sD (waysL t n))) = .ok ((waysL t n).map t3D) from rfl, bindC_ok]
    generalize waysL t n = Wy at *
    have good : ∀ P : List (T3 × T3), (∀ x ∈ P, x.1 ∈ trp n ∧ x.2 ∈ trp n ∧ Far x.1 x.2) → True := fun _ _ => trivial
    refine NxIs.ret (loop_nx (fun j (s : D) => ∃ P : List (T3 × T3), s = .lst (P.map pairD) ∧ (∀ x ∈ P, x.1 ∈ trp n ∧ x.2 ∈ trp n ∧ Far x.1 x.2) ∧ P.length ≤ j * 512) ⟨[], rfl, fun x h => absurd h List.not_mem_nil, Nat.zero_le _⟩ ?_) ?_
    · rintro j d s hd ⟨P, rfl, hP, lP⟩
      obtain ⟨one, h1, rfl⟩ : ∃ one, Wy[j]? = some one ∧ t3D one = d := by
        rw [List.getElem?_map] at hd
        cases hj : Wy[j]? with
        | none => rw [hj] at hd; cases hd
        | some x => rw [hj] at hd; cases hd; exact ⟨x, rfl, rfl⟩
      have hj : j < Wy.length := (List.getElem?_eq_some_iff.mp h1).1
      have m1 := hw one (List.mem_of_getElem? h1)
      rw [bindC_ok]
      refine NxIs.nx (loop_nx (fun i (s : D) => ∃ P : List (T3 × T3), s = .lst (P.map pairD) ∧ (∀ x ∈ P, x.1 ∈ trp n ∧ x.2 ∈ trp n ∧ Far x.1 x.2) ∧ P.length ≤ j * 512 + i) ⟨P, rfl, hP, by omega⟩ ?_) ?_
      · rintro i d s hd ⟨P, rfl, hP, lP⟩
        obtain ⟨two, h2, rfl⟩ : ∃ two, Wy[i]? = some two ∧ t3D two = d := by
          rw [List.getElem?_map] at hd
          cases hi : Wy[i]? with
          | none => rw [hi] at hd; cases hd
          | some x => rw [hi] at hd; cases hd; exact ⟨x, rfl, rfl⟩
        have hi : i < Wy.length := (List.getElem?_eq_some_iff.mp h2).1
        have m2 := hw two (List.mem_of_getElem? h2)
        obtain ⟨_, _, _, a1, a2, a3⟩ := mem_trp.mp m1
        rw [com_len, b2_ok (f := pyLt), lt_ii, b1_ok (f := isB), isB_bl, bindC_ok]
        refine NxIs.nx (P := fun (s : D) => ∃ P : List (T3 × T3), s = .lst (P.map pairD) ∧ (∀ x ∈ P, x.1 ∈ trp n ∧ x.2 ∈ trp n ∧ Far x.1 x.2) ∧ P.length ≤ j * 512 + (i + 1)) ?_ fun s h => .mk h
        by_cases g : ((([one.1, one.2.1, one.2.2].filter (comB two)).length : Nat) : Int) < 2
        · rw [if_pos (decide_eq_true g), pair_lst, app_lst (by rw [List.length_map]; omega), bindC_ok]
          refine .mk ⟨P ++ [(one, two)], by rw [List.map_append]; rfl, fun x hx => ?_, by rw [List.length_append, List.length_singleton]; omega⟩
          rcases List.mem_append.mp hx with h | h
          · exact hP x h
          · rw [List.mem_singleton.mp h]
            have g2 : ([one.1, one.2.1, one.2.2].filter (comB two)).length < 2 := by omega
            exact ⟨m1, m2, com_far a1 a2 a3 g2⟩
        · rw [if_neg (by simpa using g)]
          exact .mk ⟨P, rfl, hP, by omega⟩
      · rintro s ⟨P, rfl, hP, lP⟩
        rw [List.length_map] at lP
        exact .mk ⟨P, rfl, hP, by omega⟩
    · rintro s ⟨P, rfl, hP, lP⟩
      rw [List.length_map] at lP
      have ee : b1 isB (b2 pyEq (.ok (.lst (P.map pairD))) (.ok (.lst []))) = .ok P.isEmpty := by
        have hs := pairs_std P
        rw [b2_ok]
        obtain ⟨b, e, _, h⟩ := eq_std (x := .lst (P.map pairD)) (y := .lst []) hs.1 rfl hs.2 (by decide)
        rw [e, b1_ok, isB_bl]
        cases P with
        | nil => rw [h.mpr rfl]; rfl
        | cons x P =>
          cases b with
          | false => rfl
          | true => exact absurd (h.mp rfl) (by simp)
      rw [ee, bindC_ok]
      cases hE : P.isEmpty with
      | true =>
        obtain ⟨p, hp, q, hq, hf, e⟩ := far_ok l h5 h8
        rw [if_pos rfl, c2 (m := m_l_far), e, bindC_ok]
        exact .mk ⟨p, hp, q, hq, hf, rfl⟩
      | false =>
        rw [if_neg Bool.false_ne_true]
        have hpos : 0 < P.length := by
          cases P with
          | nil => cases hE
          | cons _ _ => simp
        have elen : b1 pyLen (mlist [.ok (.lst (P.map pairD))]) = .ok (.int (P.length : Nat)) := by
          rw [c1 (m := pyLen)]
          show M.ok (D.int ((P.map pairD).length : Nat)) = _
          rw [List.length_map]
        obtain ⟨k, ek, hk⟩ := draw_i l 2 P.length hpos (kk := 2) (mm := (P.length : Nat)) rfl rfl
        have eix : b2 pyIx (.ok (.lst (P.map pairD))) (.ok (.int (k : Nat))) = .ok (pairD P[k]) := by
          rw [b2_ok]
          show ofOpt (atI (P.map pairD) ((k : Nat) : Int)) = _
          rw [atI_nat (x := pairD P[k]) (by rw [List.getElem?_map, List.getElem?_eq_getElem hk]; rfl)]
          rfl
        obtain ⟨g1, g2, g3⟩ := hP _ (List.getElem_mem hk)
        rw [elen, ek, eix, bindC_ok]
        exact .mk ⟨_, g1, _, g2, g3, rfl⟩
  obtain ⟨d, e, p, hp, q, hq, hf, rfl⟩ := main
  refine ⟨p, hp, q, hq, hf, ?_⟩
  show (c_l_possible (intsD l) (.int (n : Nat)) (.dct (turnsK n t))).toM = _
  rw [e]
  rfl
end
theorem toM_28 {X S : Type} {c : Ctl X S} (h : RetIs c (· = .bl true)) : c.toM = .ok (.bl true) := by
  obtain ⟨d, rfl, rfl⟩ := h
  rfl
theorem row2 {p q : T3} : b1 mkLst (mlist [.ok (t3D p), .ok (t3D q)]) = .ok (t3sD [p, q]) := rfl
theorem row3 {p q r : T3} : b1 mkLst (mlist [.ok (t3D p), .ok (t3D q), .ok (t3D r)]) = .ok (t3sD [p, q, r]) := rfl
theorem law_k28_true (ns : List Int) (hn : ns.length ≤ 63) (_ : ∀ z ∈ ns, Builtin.Int.intBits z ≤ 1048576) : m_law_k28 [.scr ns] = .ok (.bl true) := by
  show (c_law_k28 (.scr ns)).toM = _
  unfold c_law_k28
  obtain ⟨l, hl, _⟩ := pool_ok ns hn
  rw [c1 (m := m_l_pool), hl, bindC_ok]
  obtain ⟨d0, ed0, hd0⟩ := draw_i l 0 4 (by decide) (kk := 0) (mm := 4) rfl rfl
  obtain ⟨n, en, h5, h8⟩ : ∃ n : Nat, (5 : Int) + (d0 : Nat) = ((n : Nat) : Int) ∧ 5 ≤ n ∧ n ≤ 8 := ⟨5 + d0, by omega, by omega, by omega⟩
  rw [ed0, b2_ok (f := pyAdd), add_ii, en, bindC_ok]
  obtain ⟨t, T, e1⟩ := start_ok l 30 n (by omega) h8
  have e1 : b1 m_l_turns (mlist [b1 m_l_places (mlist [.ok (intsD l), .ok (.int 30), .ok (.int n)])]) = .ok (.dct (turnsK n t)) := e1
  rw [e1, bindC_ok, word_ok T, make_ok T, bindC_ok]
  obtain ⟨d1, ed1, _⟩ := draw_i l 1 2 (by decide) (kk := 1) (mm := 2) rfl rfl
  refine toM_28 (NxIs.ret (P := fun d => ∃ p ∈ trp n, ∃ q ∈ trp n, Far p q ∧ d = .lst [t3D p, t3D q]) ?_ ?_)
  · rw [ed1, b2_ok (f := pyEq), eq_ii, b1_ok (f := isB), isB_bl, bindC_ok]
    by_cases g : ((d1 : Nat) : Int) = 0
    · obtain ⟨p, hp, q, hq, hf, e⟩ := possible_ok28 l h5 T
      rw [if_pos (decide_eq_true g), c3 (m := m_l_possible), e, bindC_ok]
      exact .mk ⟨p, hp, q, hq, hf, rfl⟩
    · obtain ⟨p, hp, q, hq, hf, e⟩ := far_ok l h5 h8
      rw [if_neg (by simpa using g), c2 (m := m_l_far), e, bindC_ok]
      exact .mk ⟨p, hp, q, hq, hf, rfl⟩
  rintro d ⟨p, hp, q, hq, hf, rfl⟩
  have two : ∀ r ∈ [p, q], r ∈ trp n := fun r hr => by
    rcases List.mem_cons.mp hr with rfl | hr
    · exact hp
    · rw [List.mem_singleton.mp hr]; exact hq
  have owt : ∀ r ∈ [q, p], r ∈ trp n := fun r hr => by
    rcases List.mem_cons.mp hr with rfl | hr
    · exact hq
    · rw [List.mem_singleton.mp hr]; exact hp
  have thr : ∀ r ∈ [p, p, q], r ∈ trp n := fun r hr => by
    rcases List.mem_cons.mp hr with rfl | hr
    · exact hp
    · exact two r hr
  have ahead := walked_ok T two (by show 2 < 1000; decide)
  have behind := walked_ok T owt (by show 2 < 1000; decide)
  have back := walked_ok T thr (by show 3 < 1000; decide)
  rw [wk_two hp hq hf] at ahead
  rw [wk_two hq hp hf.symm] at behind
  have epart : orV (b2 pyGt (.ok (.int (n : Nat))) (.ok (.int 5))) (b2 pyIs (b1 m_parted (mlist [.ok (.int 5), .ok (t3sD [p, q]), .ok (t3sD [q, p])])) (.ok .non)) = .ok (.bl true) := by
    by_cases g : (5 : Int) < ((n : Nat) : Int)
    · rw [b2_ok (f := pyGt), gt_t g]
      rfl
    · have : n = 5 := by omega
      subst this
      have := parted_ok (n := 5) (by decide) (by decide) two owt (by show 2 + 2 < 1000000; decide)
      rw [parted_none hp hq hf] at this
      rw [b2_ok (f := pyGt), gt_f g, c3 (m := m_parted), show m_parted [.int 5, t3sD [p, q], t3sD [q, p]] = _ from this]
      rfl
  have i0 : ∀ a b : D, b2 pyIx (.ok (.lst [a, b])) (.ok (.int 0)) = .ok a := fun a b => rfl
  have i1 : ∀ a b : D, b2 pyIx (.ok (.lst [a, b])) (.ok (.int 1)) = .ok b := fun a b => rfl
  rw [i0, bindC_ok, i1, bindC_ok, can_t3 h8 hp, can_t3 h8 hq, pair_lst, bindC_ok, row2, c2 (m := m_l_walked_fc7), ahead, bindC_ok, row2, c2 (m := m_l_walked_fc7), behind, bindC_ok, i0, i1, walkD_len, walkD_len, row3, c2 (m := m_l_walked_fc7), back, walkD_len, epart]
  have lb : cnT t n p = true → (t :: (wkT n t [p, p, q]).1).length = 3 + if cnT t n q = true then 1 else 0 := fun h => by
    rw [List.length_cons, wk_back hp hq h]
    omega
  cases c1 : cnT t n p with
  | false =>
    cases c2 : cnT t n q with
    | false => exact .mk rfl
    | true => exact .mk rfl
  | true =>
    have lb := lb c1
    rw [lb]
    cases c2 : cnT t n q with
    | false => exact .mk rfl
    | true =>
      have U := rv_tb T hp c1
      have V := rv_tb T hq c2
      have U2 := rv_tb U hq ((can_far hp hq hf).trans c2)
      have x1 : b2 pyIx (.ok (walkD [t, rvT t p, rvT (rvT t p) q] n)) (.ok (.int 1)) = .ok (strD (lw n (rvT t p))) := walkD_ix (k := 1) rfl
      have x2 : b2 pyIx (.ok (walkD [t, rvT t p, rvT (rvT t p) q] n)) (.ok (.int 2)) = .ok (strD (lw n (rvT (rvT t p) q))) := walkD_ix (k := 2) rfl
      have y1 : b2 pyIx (.ok (walkD [t, rvT t q, rvT (rvT t q) p] n)) (.ok (.int 1)) = .ok (strD (lw n (rvT t q))) := walkD_ix (k := 1) rfl
      have y2 : b2 pyIx (.ok (walkD [t, rvT t q, rvT (rvT t q) p] n)) (.ok (.int 2)) = .ok (strD (lw n (rvT (rvT t p) q))) := by
        rw [rv_comm]
        exact walkD_ix (k := 2) rfl
      have ne1 : lw n (rvT t p) ≠ lw n (rvT (rvT t p) q) := word_ne U U2 hq (by rw [rv_at, Int.neg_neg])
      have ne2 : lw n (rvT t p) ≠ lw n (rvT t q) := word_ne U V hp (by rw [rv_at, far_at hq hf hp])
      have et : orM (b1 isB (b2 pyNe (b2 pyIx (.ok (walkD [t, rvT t p, rvT (rvT t p) q] n)) (.ok (.int 2))) (b2 pyIx (.ok (walkD [t, rvT t q, rvT (rvT t q) p] n)) (.ok (.int 2))))) (orM (b1 isB (b2 pyEq (b2 pyIx (.ok (walkD [t, rvT t p, rvT (rvT t p) q] n)) (.ok (.int 1))) (b2 pyIx (.ok (walkD [t, rvT t p, rvT (rvT t p) q] n)) (.ok (.int 2))))) (b1 isB (b2 pyEq (b2 pyIx (.ok (walkD [t, rvT t p, rvT (rvT t p) q] n)) (.ok (.int 1))) (b2 pyIx (.ok (walkD [t, rvT t q, rvT (rvT t q) p] n)) (.ok (.int 1)))))) = .ok false := by
        rw [x1, x2, y1, y2, b2_ok (f := pyNe), ne_strD, b2_ok (f := pyEq), eq_strD, b2_ok (f := pyEq), eq_strD, decide_eq_true rfl, decide_eq_false ne1, decide_eq_false ne2]
        rfl
      simp only [if_true]
      rw [et]
      exact .mk rfl
end Mir
set_option maxHeartbeats 8000000
namespace Mir
open PySem PySem.Spec L2
open PyProof.Rows (envOfC)
def clsS (s : Stmt) (i : Nat) : Stmt := match s with
  | .ClassDef _ _ _ b _ _ _ _ _ _ _ => b.getD i (.Pass ⟨0, 0, 0, 0⟩)
  | _ => .Pass ⟨0, 0, 0, 0⟩
def topS (i : Nat) : Stmt := PySem.Challenge.pw_movedposts_k28_whole_far_passings_exchan.main.body.getD i (.Pass ⟨0, 0, 0, 0⟩)
abbrev s_l_can_pass : Stmt := topS 43
theorem sc_l_can_pass : FnScope ["_law_turns_here", "_law_posts", "_law_a", "_law_b", "_law_c", "_law_d"] ["_law_turns_here", "_law_posts", "_law_a", "_law_b", "_law_c"] (defScope s_l_can_pass) := ⟨rfl, rfl, rfl, by decide +kernel, rfl, by decide +kernel, by decide +kernel⟩
theorem ok_l_can_pass {G : GG} {f : Addr} {fd : FuncData} (Fn : Fun G.K "_law_can_pass" "_law_can_pass" s_l_can_pass f fd) (B : Bi G) : FnOk G.P G.w G.K G.mg G.base (L2N.CX G.P G.w) 1 f fd ["_law_turns_here", "_law_posts", "_law_a", "_law_b", "_law_c"] (spM G m_l_can_pass) := by
  refine fn_ok [true, true, true, true, true, true] _ Fn sc_l_can_pass (by decide +kernel) rfl ar5_len (fun cdv A outer s H E hr ds hl => ?_)
  obtain ⟨p_turns_here, p_posts, p_a, p_b, p_c, rfl⟩ := len5 hl
  refine ⟨c_l_can_pass p_turns_here p_posts p_a p_b p_c, rfl, ?_⟩
  unfold c_l_can_pass
  refine bm_lit [.val p_turns_here, .val p_posts, .val p_a, .val p_b, .val p_c, .unk] rfl ?_
  refine bm_for (T := Unit) (fj := (fun (v1_j : Unit) => [.val p_turns_here, .val p_posts, .val p_a, .val p_b, .val p_c, .unk])) (j0 := ()) (im_range1 (by rfl) B.f_range (am_cons (em_var 1 rfl rfl rfl) am_nil)) .nil (.same (.same (.same (.same (.same (.unk .nil)))))) rfl (tg_name 5 rfl rfl) (fun v2_d v1_j => ?_) (fun v1_j => ?_) rfl
  · skip
    refine .inl ⟨_, rfl, ?_⟩
    refine bm_lit [.val p_turns_here, .val p_posts, .val p_a, .val p_b, .val p_c, .val v2_d] rfl ?_
    refine bm_if (fj := (fun (v3_j : Unit) => [.val p_turns_here, .val p_posts, .val p_a, .val p_b, .val p_c, .val v2_d])) (tm_w (wm_and (tm_cmp ok_ne rm_ne (em_var 5 rfl rfl rfl) (em_var 2 rfl rfl rfl) (nomark _)) (wm_and (tm_cmp ok_ne rm_ne (em_var 5 rfl rfl rfl) (em_var 3 rfl rfl rfl) (nomark _)) (wm_and1 (tm_cmp ok_ne rm_ne (em_var 5 rfl rfl rfl) (em_var 4 rfl rfl rfl) (nomark _)))))) .nil ?_ ?_ (fun v3_j => ?_)
    · skip
      refine bm_lit [.val p_turns_here, .val p_posts, .val p_a, .val p_b, .val p_c, .val v2_d] rfl ?_
      refine bm_ifl (tm_w (wm_or (tm_cmp ok_ne rm_ne (em_ix (em_var 0 rfl rfl rfl) (em_tup (am_cons (em_var 5 rfl rfl rfl) (am_cons (em_var 2 rfl rfl rfl) (am_cons (em_var 3 rfl rfl rfl) am_nil)))) (fun _ _ => rfl)) (em_ix (em_var 0 rfl rfl rfl) (em_tup (am_cons (em_var 5 rfl rfl rfl) (am_cons (em_var 3 rfl rfl rfl) (am_cons (em_var 4 rfl rfl rfl) am_nil)))) (fun _ _ => rfl)) (nomark _)) (wm_or1 (tm_cmp ok_ne rm_ne (em_ix (em_var 0 rfl rfl rfl) (em_tup (am_cons (em_var 5 rfl rfl rfl) (am_cons (em_var 2 rfl rfl rfl) (am_cons (em_var 3 rfl rfl rfl) am_nil)))) (fun _ _ => rfl)) (em_ix (em_var 0 rfl rfl rfl) (em_tup (am_cons (em_var 5 rfl rfl rfl) (am_cons (em_var 2 rfl rfl rfl) (am_cons (em_var 4 rfl rfl rfl) am_nil)))) (fun _ _ => rfl)) (nomark _))))) .nil ?_ ?_ ?_
      · skip
        refine bm_lit [.val p_turns_here, .val p_posts, .val p_a, .val p_b, .val p_c, .val v2_d] rfl ?_
        exact bm_ret (he := em_bl) .nil
      · repeat (first | exact noNx_retO | exact noNx_ret | exact noNx_exn | exact noNx_stk | exact noNx_exnF | exact noNx_exnF2 | refine noNx_bindC (fun _ => ?_) | refine noNx_bind (fun _ => ?_) | refine noNx_ite ?_ ?_ | (dsimp only))
      exact bm_nil (s := ()) (.same (.same (.same (.same (.same (.same .nil))))))
    · skip
      exact bm_nil (s := ()) (.same (.same (.same (.same (.same (.same .nil))))))
    exact bm_nil (s := ()) (.same (.same (.same (.same (.same (.unk .nil))))))
  refine bm_lit [.val p_turns_here, .val p_posts, .val p_a, .val p_b, .val p_c, .unk] rfl ?_
  exact bm_ret (he := em_bl) .nil
abbrev s_l_draw : Stmt := topS 36
theorem sc_l_draw : FnScope ["_law_pool_here", "_law_k", "_law_many"] ["_law_pool_here", "_law_k", "_law_many"] (defScope s_l_draw) := ⟨rfl, rfl, rfl, by decide +kernel, rfl, by decide +kernel, by decide +kernel⟩
theorem ok_l_draw {G : GG} {f : Addr} {fd : FuncData} (Fn : Fun G.K "_law_draw" "_law_draw" s_l_draw f fd) (B : Bi G) : FnOk G.P G.w G.K G.mg G.base (L2N.CX G.P G.w) 1 f fd ["_law_pool_here", "_law_k", "_law_many"] (spM G m_l_draw) := by
  refine fn_ok [true, true, true] _ Fn sc_l_draw (by decide +kernel) rfl ar3_len (fun cdv A outer s H E hr ds hl => ?_)
  obtain ⟨p_pool_here, p_k, p_many, rfl⟩ := len3 hl
  refine ⟨c_l_draw p_pool_here p_k p_many, rfl, ?_⟩
  unfold c_l_draw
  refine bm_lit [.val p_pool_here, .val p_k, .val p_many] rfl ?_
  refine bm_ifl (tm_cmp ok_lt rm_lt (em_var 1 rfl rfl rfl) (em_len (by rfl) B.f_len (am_cons (em_var 0 rfl rfl rfl) am_nil)) (nomark _)) .nil ?_ ?_ ?_
  · skip
    refine bm_lit [.val p_pool_here, .val p_k, .val p_many] rfl ?_
    exact bm_ret (he := em_mod (em_int_of (by rfl) B.f_int (am_cons (em_ix (em_var 0 rfl rfl rfl) (em_var 1 rfl rfl rfl) (fun _ _ => rfl)) am_nil)) (em_var 2 rfl rfl rfl)) .nil
  · repeat (first | exact noNx_retO | exact noNx_ret | exact noNx_exn | exact noNx_stk | exact noNx_exnF | exact noNx_exnF2 | refine noNx_bindC (fun _ => ?_) | refine noNx_bind (fun _ => ?_) | refine noNx_ite ?_ ?_ | (dsimp only))
  refine bm_lit [.val p_pool_here, .val p_k, .val p_many] rfl ?_
  exact bm_ret (he := em_int) .nil
abbrev s_l_named : Stmt := topS 42
theorem sc_l_named : FnScope ["_law_pool_here", "_law_at", "_law_posts", "_law_many", "_law_left", "_law_k", "_law_named_here"] ["_law_pool_here", "_law_at", "_law_posts", "_law_many"] (defScope s_l_named) := ⟨rfl, rfl, rfl, by decide +kernel, rfl, by decide +kernel, by decide +kernel⟩
theorem ok_l_named {G : GG} {f : Addr} {fd : FuncData} (Fn : Fun G.K "_law_named" "_law_named" s_l_named f fd) (B : Bi G) (k_l_draw : Kn G 1 "_law_draw" m_l_draw) : FnOk G.P G.w G.K G.mg G.base (L2N.CX G.P G.w) 2 f fd ["_law_pool_here", "_law_at", "_law_posts", "_law_many"] (spM G m_l_named) := by
  refine fn_ok [true, true, true, true, true, true, true] _ Fn sc_l_named (by decide +kernel) rfl ar4_len (fun cdv A outer s H E hr ds hl => ?_)
  obtain ⟨p_pool_here, p_at, p_posts, p_many, rfl⟩ := len4 hl
  refine ⟨c_l_named p_pool_here p_at p_posts p_many, rfl, ?_⟩
  unfold c_l_named
  refine bm_lit [.val p_pool_here, .val p_at, .val p_posts, .val p_many, .unk, .unk, .unk] rfl ?_
  refine bm_asgO 4 (gf_lc 4 rfl  (blkF_of ["_law_pool_here", "_law_at", "_law_posts", "_law_many", "_law_left", "_law_k", "_law_named_here"] (defScope s_l_named).names rfl rfl (by decide +kernel) : BlkF _ _ [("_law_k", 5)] [false, false, false, false, false, true, false] [false, false, false, false, false, true, false] _) rfl (im_range1 (by rfl) B.f_range (am_cons (em_var 2 rfl rfl rfl) am_nil)) (tg_name 5 rfl rfl) (fun v2_k => .inl (⟨_, _, _, rfl, ifm_nil, em_var 5 rfl rfl rfl, rfl⟩)) rfl rfl rfl (by rfl)) .nil fun v1_left => ?_
  refine bm_lit [.val p_pool_here, .val p_at, .val p_posts, .val p_many, .own v1_left, .unk, .unk] rfl ?_
  refine bm_asgO 6 (gf_set 6 rfl rfl (fe_lst (am_nil))) .nil fun v3_named_here => ?_
  refine bm_lit [.val p_pool_here, .val p_at, .val p_posts, .val p_many, .own v1_left, .unk, .own v3_named_here] rfl ?_
  refine bm_for (T := Unit) (fj := (fun (v4_j : D × D) => [.val p_pool_here, .val p_at, .val p_posts, .val p_many, .own v4_j.1, .unk, .own v4_j.2])) (j0 := (v1_left, v3_named_here)) (im_range1 (by rfl) B.f_range (am_cons (em_var 3 rfl rfl rfl) am_nil)) .nil (.same (.same (.same (.same (.same (.unk (.same .nil))))))) rfl (tg_name 5 rfl rfl) (fun v5_k v4_j => ?_) (fun v4_j => ?_) rfl
  · skip
    refine .inl ⟨_, rfl, ?_⟩
    refine bm_lit [.val p_pool_here, .val p_at, .val p_posts, .val p_many, .own v4_j.1, .val v5_k, .own v4_j.2] rfl ?_
    refine bm_appPop 6 4 (by decide) rfl rfl (em_look (em_call k_l_draw rfl (by rfl) (am_cons (em_var 0 rfl rfl rfl) (am_cons (em_add (em_var 1 rfl rfl rfl) (em_var 5 rfl rfl rfl)) (am_cons (em_len (by rfl) B.f_len (am_cons (em_var 4 rfl rfl rfl) am_nil)) am_nil))))) .nil (fun v6_p => ?_) (fun t q Y hY => pe_bm PySem.F.plainAttrs_list PySem.F.slot_list_append PySem.F.type_list_append mt_append (pvar 6 rfl rfl Y hY) (pa_cons (pe_bm PySem.F.plainAttrs_list PySem.F.slot_list_pop PySem.F.type_list_pop mt_popAt (pvar 4 rfl rfl Y hY) (pa_cons (q Y hY) pa_nil)) pa_nil))
    exact bm_nil (s := (v6_p.2, v6_p.1)) (.same (.same (.same (.same (.same (.unk (.same .nil)))))))
  refine bm_lit [.val p_pool_here, .val p_at, .val p_posts, .val p_many, .own v4_j.1, .unk, .own v4_j.2] rfl ?_
  refine bm_give 6 rfl ?_
  exact bm_ret (he := em_var 6 rfl rfl rfl) .nil
abbrev s_l_far : Stmt := topS 46
theorem sc_l_far : FnScope ["_law_pool_here", "_law_posts", "_law_p", "_law_first", "_law_others", "_law_q", "_law_second", "_law_middle", "_law_row", "_law_third", "_law_turn"] ["_law_pool_here", "_law_posts"] (defScope s_l_far) := ⟨rfl, rfl, rfl, by decide +kernel, rfl, by decide +kernel, by decide +kernel⟩
theorem ok_l_far {G : GG} {f : Addr} {fd : FuncData} (Fn : Fun G.K "_law_far" "_law_far" s_l_far f fd) (B : Bi G) (k_l_draw : Kn G 2 "_law_draw" m_l_draw) (k_l_named : Kn G 2 "_law_named" m_l_named) : FnOk G.P G.w G.K G.mg G.base (L2N.CX G.P G.w) 3 f fd ["_law_pool_here", "_law_posts"] (spM G m_l_far) := by
  refine fn_ok [true, true, true, true, true, false, true, true, true, true, true] _ Fn sc_l_far (by decide +kernel) rfl ar2_len (fun cdv A outer s H E hr ds hl => ?_)
  obtain ⟨p_pool_here, p_posts, rfl⟩ := len2 hl
  refine ⟨c_l_far p_pool_here p_posts, rfl, ?_⟩
  unfold c_l_far
  refine bm_lit [.val p_pool_here, .val p_posts, .unk, .unk, .unk, .unk, .unk, .unk, .unk, .unk, .unk] rfl ?_
  refine bm_asg 2 (gm_set 2 rfl rfl (em_call k_l_named rfl (by rfl) (am_cons (em_var 0 rfl rfl rfl) (am_cons em_int (am_cons (em_var 1 rfl rfl rfl) (am_cons em_int am_nil)))))) .nil fun v1_p => ?_
  refine bm_lit [.val p_pool_here, .val p_posts, .val v1_p, .unk, .unk, .unk, .unk, .unk, .unk, .unk, .unk] rfl ?_
  refine bm_asg 3 (gm_set 3 rfl rfl (em_tup (am_cons (em_ix (em_var 2 rfl rfl rfl) em_int (fun _ _ => rfl)) (am_cons (em_ix (em_var 2 rfl rfl rfl) em_int (fun _ _ => rfl)) (am_cons (em_ix (em_var 2 rfl rfl rfl) em_int (fun _ _ => rfl)) am_nil))))) .nil fun v2_first => ?_
  refine bm_lit [.val p_pool_here, .val p_posts, .val v1_p, .val v2_first, .unk, .unk, .unk, .unk, .unk, .unk, .unk] rfl ?_
  refine bm_asg 4 (gm_lc 4 rfl  (blkF_of ["_law_pool_here", "_law_posts", "_law_p", "_law_first", "_law_others", "_law_q", "_law_second", "_law_middle", "_law_row", "_law_third", "_law_turn"] (defScope s_l_far).names rfl rfl (by decide +kernel) : BlkF _ _ [("_law_q", 5)] [false, false, false, true, false, true, false, false, false, false, false] [false, false, false, false, false, true, false, false, false, false, false] _) rfl (im_range1 (by rfl) B.f_range (am_cons (em_var 1 rfl rfl rfl) am_nil)) (tg_name 5 rfl rfl) (fun v4_q => .inl (⟨_, _, _, rfl, ifm_one (tm_cmp ok_ni rm_mem (em_var 5 rfl rfl rfl) (em_var 3 rfl rfl rfl) (by with_unfolding_all rfl)), em_var 5 rfl rfl rfl, rfl⟩)) rfl rfl rfl (by rfl)) .nil fun v3_others => ?_
  refine bm_lit [.val p_pool_here, .val p_posts, .val v1_p, .val v2_first, .val v3_others, .unk, .unk, .unk, .unk, .unk, .unk] rfl ?_
  refine bm_asg 6 (gm_set 6 rfl rfl (em_call k_l_named rfl (by rfl) (am_cons (em_var 0 rfl rfl rfl) (am_cons em_int (am_cons (em_len (by rfl) B.f_len (am_cons (em_var 4 rfl rfl rfl) am_nil)) (am_cons em_int am_nil)))))) .nil fun v5_second => ?_
  refine bm_lit [.val p_pool_here, .val p_posts, .val v1_p, .val v2_first, .val v3_others, .unk, .val v5_second, .unk, .unk, .unk, .unk] rfl ?_
  refine bm_asg 7 (gm_set 7 rfl rfl (em_ix (em_lst (am_cons (em_ix (em_var 2 rfl rfl rfl) em_int (fun _ _ => rfl)) (am_cons (em_ix (em_var 2 rfl rfl rfl) em_int (fun _ _ => rfl)) (am_cons (em_ix (em_var 2 rfl rfl rfl) em_int (fun _ _ => rfl)) am_nil)))) (em_call k_l_draw rfl (by rfl) (am_cons (em_var 0 rfl rfl rfl) (am_cons em_int (am_cons em_int am_nil)))) (fun _ _ => rfl))) .nil fun v6_middle => ?_
  refine bm_lit [.val p_pool_here, .val p_posts, .val v1_p, .val v2_first, .val v3_others, .unk, .val v5_second, .val v6_middle, .unk, .unk, .unk] rfl ?_
  refine bm_asg 8 (gm_set 8 rfl rfl (em_lst (am_cons (em_var 7 rfl rfl rfl) (am_cons (em_ix (em_var 4 rfl rfl rfl) (em_ix (em_var 6 rfl rfl rfl) em_int (fun _ _ => rfl)) (fun _ _ => rfl)) (am_cons (em_ix (em_var 4 rfl rfl rfl) (em_ix (em_var 6 rfl rfl rfl) em_int (fun _ _ => rfl)) (fun _ _ => rfl)) am_nil))))) .nil fun v7_row => ?_
  refine bm_lit [.val p_pool_here, .val p_posts, .val v1_p, .val v2_first, .val v3_others, .unk, .val v5_second, .val v6_middle, .val v7_row, .unk, .unk] rfl ?_
  refine bm_if (fj := (fun (v8_j : D) => [.val p_pool_here, .val p_posts, .val v1_p, .val v2_first, .val v3_others, .unk, .val v5_second, .val v6_middle, .val v8_j, .unk, .unk])) (tm_w (wm_and (tm_cmp ok_gt rm_gt (em_len (by rfl) B.f_len (am_cons (em_var 4 rfl rfl rfl) am_nil)) em_int (nomark _)) (wm_and1 (tm_cmp ok_eq rm_eq (em_call k_l_draw rfl (by rfl) (am_cons (em_var 0 rfl rfl rfl) (am_cons em_int (am_cons em_int am_nil)))) em_int (nomark _))))) .nil ?_ ?_ (fun v8_j => ?_)
  · skip
    refine bm_lit [.val p_pool_here, .val p_posts, .val v1_p, .val v2_first, .val v3_others, .unk, .val v5_second, .val v6_middle, .val v7_row, .unk, .unk] rfl ?_
    refine bm_asg 9 (gm_set 9 rfl rfl (em_call k_l_named rfl (by rfl) (am_cons (em_var 0 rfl rfl rfl) (am_cons em_int (am_cons (em_len (by rfl) B.f_len (am_cons (em_var 4 rfl rfl rfl) am_nil)) (am_cons em_int am_nil)))))) .nil fun v9_third => ?_
    refine bm_lit [.val p_pool_here, .val p_posts, .val v1_p, .val v2_first, .val v3_others, .unk, .val v5_second, .val v6_middle, .val v7_row, .val v9_third, .unk] rfl ?_
    refine bm_asg 8 (gm_set 8 rfl rfl (em_lst (am_cons (em_ix (em_var 4 rfl rfl rfl) (em_ix (em_var 9 rfl rfl rfl) em_int (fun _ _ => rfl)) (fun _ _ => rfl)) (am_cons (em_ix (em_var 4 rfl rfl rfl) (em_ix (em_var 9 rfl rfl rfl) em_int (fun _ _ => rfl)) (fun _ _ => rfl)) (am_cons (em_ix (em_var 4 rfl rfl rfl) (em_ix (em_var 9 rfl rfl rfl) em_int (fun _ _ => rfl)) (fun _ _ => rfl)) am_nil))))) .nil fun v10_row => ?_
    exact bm_nil (s := v10_row) (.same (.same (.same (.same (.same (.unk (.same (.same (.same (.unk (.unk .nil)))))))))))
  · skip
    exact bm_nil (s := v7_row) (.same (.same (.same (.same (.same (.unk (.same (.same (.same (.unk (.unk .nil)))))))))))
  refine bm_lit [.val p_pool_here, .val p_posts, .val v1_p, .val v2_first, .val v3_others, .unk, .val v5_second, .val v6_middle, .val v8_j, .unk, .unk] rfl ?_
  refine bm_asg 10 (gm_set 10 rfl rfl (em_call k_l_draw rfl (by rfl) (am_cons (em_var 0 rfl rfl rfl) (am_cons em_int (am_cons em_int am_nil))))) .nil fun v11_turn => ?_
  refine bm_lit [.val p_pool_here, .val p_posts, .val v1_p, .val v2_first, .val v3_others, .unk, .val v5_second, .val v6_middle, .val v8_j, .unk, .val v11_turn] rfl ?_
  exact bm_ret (he := em_lst (am_cons (em_var 3 rfl rfl rfl) (am_cons (em_tup (am_cons (em_ix (em_var 8 rfl rfl rfl) (em_var 10 rfl rfl rfl) (fun _ _ => rfl)) (am_cons (em_ix (em_var 8 rfl rfl rfl) (em_sub (em_var 10 rfl rfl rfl) em_int) (fun _ _ => rfl)) (am_cons (em_ix (em_var 8 rfl rfl rfl) (em_sub (em_var 10 rfl rfl rfl) em_int) (fun _ _ => rfl)) am_nil)))) am_nil))) .nil
abbrev s_l_letters : Stmt := topS 41
theorem sc_l_letters : FnScope ["_law_turns_here", "_law_posts", "_law_letters_here", "_law_c", "_law_b", "_law_a"] ["_law_turns_here", "_law_posts"] (defScope s_l_letters) := ⟨rfl, rfl, rfl, by decide +kernel, rfl, by decide +kernel, by decide +kernel⟩
theorem ok_l_letters {G : GG} {f : Addr} {fd : FuncData} (Fn : Fun G.K "_law_letters" "_law_letters" s_l_letters f fd) (B : Bi G) : FnOk G.P G.w G.K G.mg G.base (L2N.CX G.P G.w) 1 f fd ["_law_turns_here", "_law_posts"] (spM G m_l_letters) := by
  refine fn_ok [true, true, true, true, true, true] _ Fn sc_l_letters (by decide +kernel) rfl ar2_len (fun cdv A outer s H E hr ds hl => ?_)
  obtain ⟨p_turns_here, p_posts, rfl⟩ := len2 hl
  refine ⟨c_l_letters p_turns_here p_posts, rfl, ?_⟩
  unfold c_l_letters
  refine bm_lit [.val p_turns_here, .val p_posts, .unk, .unk, .unk, .unk] rfl ?_
  refine bm_asg 2 (gm_set 2 rfl rfl em_str) .nil fun v1_letters_here => ?_
  refine bm_lit [.val p_turns_here, .val p_posts, .val v1_letters_here, .unk, .unk, .unk] rfl ?_
  refine bm_for (T := Unit) (fj := (fun (v2_j : D) => [.val p_turns_here, .val p_posts, .val v2_j, .unk, .unk, .unk])) (j0 := v1_letters_here) (im_range1 (by rfl) B.f_range (am_cons (em_var 1 rfl rfl rfl) am_nil)) .nil (.same (.same (.same (.unk (.unk (.unk .nil)))))) rfl (tg_name 3 rfl rfl) (fun v3_c v2_j => ?_) (fun v2_j => ?_) rfl
  · skip
    refine .inl ⟨_, rfl, ?_⟩
    refine bm_lit [.val p_turns_here, .val p_posts, .val v2_j, .val v3_c, .unk, .unk] rfl ?_
    refine bm_for (T := Unit) (fj := (fun (v4_j : D) => [.val p_turns_here, .val p_posts, .val v4_j, .val v3_c, .unk, .unk])) (j0 := v2_j) (im_range1 (by rfl) B.f_range (am_cons (em_var 3 rfl rfl rfl) am_nil)) .nil (.same (.same (.same (.same (.unk (.unk .nil)))))) rfl (tg_name 4 rfl rfl) (fun v5_b v4_j => ?_) (fun v4_j => ?_) rfl
    · skip
      refine .inl ⟨_, rfl, ?_⟩
      refine bm_lit [.val p_turns_here, .val p_posts, .val v4_j, .val v3_c, .val v5_b, .unk] rfl ?_
      refine bm_for (T := Unit) (fj := (fun (v6_j : D) => [.val p_turns_here, .val p_posts, .val v6_j, .val v3_c, .val v5_b, .unk])) (j0 := v4_j) (im_range1 (by rfl) B.f_range (am_cons (em_var 4 rfl rfl rfl) am_nil)) .nil (.same (.same (.same (.same (.same (.unk .nil)))))) rfl (tg_name 5 rfl rfl) (fun v7_a v6_j => ?_) (fun v6_j => ?_) rfl
      · skip
        refine .inl ⟨_, rfl, ?_⟩
        refine bm_lit [.val p_turns_here, .val p_posts, .val v6_j, .val v3_c, .val v5_b, .val v7_a] rfl ?_
        refine bm_asg 2 (gm_set 2 rfl rfl (em_add (em_var 2 rfl rfl rfl) (em_ix (em_lst (am_cons em_str (am_cons em_str am_nil))) (em_int_of (by rfl) B.f_int (am_cons (em_cmp ok_eq rm_eq (em_ix (em_var 0 rfl rfl rfl) (em_tup (am_cons (em_var 5 rfl rfl rfl) (am_cons (em_var 4 rfl rfl rfl) (am_cons (em_var 3 rfl rfl rfl) am_nil)))) (fun _ _ => rfl)) em_int (nomark _)) am_nil)) (fun _ _ => rfl)))) .nil fun v8_letters_here => ?_
        exact bm_nil (s := v8_letters_here) (.same (.same (.same (.same (.same (.unk .nil))))))
      exact bm_nil (s := v6_j) (.same (.same (.same (.same (.unk (.unk .nil))))))
    exact bm_nil (s := v4_j) (.same (.same (.same (.unk (.unk (.unk .nil))))))
  refine bm_lit [.val p_turns_here, .val p_posts, .val v2_j, .unk, .unk, .unk] rfl ?_
  exact bm_ret (he := em_var 2 rfl rfl rfl) .nil
abbrev s_l_cross : Stmt := topS 37
theorem sc_l_cross : FnScope ["_law_p", "_law_q", "_law_r"] ["_law_p", "_law_q", "_law_r"] (defScope s_l_cross) := ⟨rfl, rfl, rfl, by decide +kernel, rfl, by decide +kernel, by decide +kernel⟩
theorem ok_l_cross {G : GG} {f : Addr} {fd : FuncData} (Fn : Fun G.K "_law_cross" "_law_cross" s_l_cross f fd) : FnOk G.P G.w G.K G.mg G.base (L2N.CX G.P G.w) 1 f fd ["_law_p", "_law_q", "_law_r"] (spM G m_l_cross) := by
  refine fn_ok [true, true, true] _ Fn sc_l_cross (by decide +kernel) rfl ar3_len (fun cdv A outer s H E hr ds hl => ?_)
  obtain ⟨p_p, p_q, p_r, rfl⟩ := len3 hl
  refine ⟨c_l_cross p_p p_q p_r, rfl, ?_⟩
  unfold c_l_cross
  refine bm_lit [.val p_p, .val p_q, .val p_r] rfl ?_
  exact bm_ret (he := em_sub (em_mul (em_sub (em_ix (em_var 1 rfl rfl rfl) em_int (fun _ _ => rfl)) (em_ix (em_var 0 rfl rfl rfl) em_int (fun _ _ => rfl))) (em_sub (em_ix (em_var 2 rfl rfl rfl) em_int (fun _ _ => rfl)) (em_ix (em_var 0 rfl rfl rfl) em_int (fun _ _ => rfl)))) (em_mul (em_sub (em_ix (em_var 1 rfl rfl rfl) em_int (fun _ _ => rfl)) (em_ix (em_var 0 rfl rfl rfl) em_int (fun _ _ => rfl))) (em_sub (em_ix (em_var 2 rfl rfl rfl) em_int (fun _ _ => rfl)) (em_ix (em_var 0 rfl rfl rfl) em_int (fun _ _ => rfl))))) .nil
abbrev s_l_free : Stmt := topS 38
theorem sc_l_free : FnScope ["_law_places_here", "_law_spot", "_law_k", "_law_j"] ["_law_places_here", "_law_spot"] (defScope s_l_free) := ⟨rfl, rfl, rfl, by decide +kernel, rfl, by decide +kernel, by decide +kernel⟩
theorem ok_l_free {G : GG} {f : Addr} {fd : FuncData} (Fn : Fun G.K "_law_free" "_law_free" s_l_free f fd) (B : Bi G) (k_l_cross : Kn G 1 "_law_cross" m_l_cross) : FnOk G.P G.w G.K G.mg G.base (L2N.CX G.P G.w) 2 f fd ["_law_places_here", "_law_spot"] (spM G m_l_free) := by
  refine fn_ok [true, true, true, true] _ Fn sc_l_free (by decide +kernel) rfl ar2_len (fun cdv A outer s H E hr ds hl => ?_)
  obtain ⟨p_places_here, p_spot, rfl⟩ := len2 hl
  refine ⟨c_l_free p_places_here p_spot, rfl, ?_⟩
  unfold c_l_free
  refine bm_lit [.val p_places_here, .val p_spot, .unk, .unk] rfl ?_
  refine bm_for (T := Unit) (fj := (fun (v1_j : Unit) => [.val p_places_here, .val p_spot, .unk, .unk])) (j0 := ()) (im_range1 (by rfl) B.f_range (am_cons (em_len (by rfl) B.f_len (am_cons (em_var 0 rfl rfl rfl) am_nil)) am_nil)) .nil (.same (.same (.unk (.unk .nil)))) rfl (tg_name 2 rfl rfl) (fun v2_k v1_j => ?_) (fun v1_j => ?_) rfl
  · skip
    refine .inl ⟨_, rfl, ?_⟩
    refine bm_lit [.val p_places_here, .val p_spot, .val v2_k, .unk] rfl ?_
    refine bm_ifl (tm_cmp ok_eq rm_eq (em_ix (em_var 0 rfl rfl rfl) (em_var 2 rfl rfl rfl) (fun _ _ => rfl)) (em_var 1 rfl rfl rfl) (nomark _)) .nil ?_ ?_ ?_
    · skip
      refine bm_lit [.val p_places_here, .val p_spot, .val v2_k, .unk] rfl ?_
      exact bm_ret (he := em_bl) .nil
    · repeat (first | exact noNx_retO | exact noNx_ret | exact noNx_exn | exact noNx_stk | exact noNx_exnF | exact noNx_exnF2 | refine noNx_bindC (fun _ => ?_) | refine noNx_bind (fun _ => ?_) | refine noNx_ite ?_ ?_ | (dsimp only))
    refine bm_lit [.val p_places_here, .val p_spot, .val v2_k, .unk] rfl ?_
    refine bm_for (T := Unit) (fj := (fun (v3_j : Unit) => [.val p_places_here, .val p_spot, .val v2_k, .unk])) (j0 := ()) (im_range1 (by rfl) B.f_range (am_cons (em_var 2 rfl rfl rfl) am_nil)) .nil (.same (.same (.same (.unk .nil)))) rfl (tg_name 3 rfl rfl) (fun v4_j v3_j => ?_) (fun v3_j => ?_) rfl
    · skip
      refine .inl ⟨_, rfl, ?_⟩
      refine bm_lit [.val p_places_here, .val p_spot, .val v2_k, .val v4_j] rfl ?_
      refine bm_ifl (tm_cmp ok_eq rm_eq (em_call k_l_cross rfl (by rfl) (am_cons (em_ix (em_var 0 rfl rfl rfl) (em_var 3 rfl rfl rfl) (fun _ _ => rfl)) (am_cons (em_ix (em_var 0 rfl rfl rfl) (em_var 2 rfl rfl rfl) (fun _ _ => rfl)) (am_cons (em_var 1 rfl rfl rfl) am_nil)))) em_int (nomark _)) .nil ?_ ?_ ?_
      · skip
        refine bm_lit [.val p_places_here, .val p_spot, .val v2_k, .val v4_j] rfl ?_
        exact bm_ret (he := em_bl) .nil
      · repeat (first | exact noNx_retO | exact noNx_ret | exact noNx_exn | exact noNx_stk | exact noNx_exnF | exact noNx_exnF2 | refine noNx_bindC (fun _ => ?_) | refine noNx_bind (fun _ => ?_) | refine noNx_ite ?_ ?_ | (dsimp only))
      exact bm_nil (s := ()) (.same (.same (.same (.unk .nil))))
    exact bm_nil (s := ()) (.same (.same (.unk (.unk .nil))))
  refine bm_lit [.val p_places_here, .val p_spot, .unk, .unk] rfl ?_
  exact bm_ret (he := em_bl) .nil
abbrev s_l_places : Stmt := topS 39
theorem sc_l_places : FnScope ["_law_pool_here", "_law_at", "_law_posts", "_law_places_here", "_law_k", "_law_x", "_law_y", "_law_j"] ["_law_pool_here", "_law_at", "_law_posts"] (defScope s_l_places) := ⟨rfl, rfl, rfl, by decide +kernel, rfl, by decide +kernel, by decide +kernel⟩
theorem ok_l_places {G : GG} {f : Addr} {fd : FuncData} (Fn : Fun G.K "_law_places" "_law_places" s_l_places f fd) (B : Bi G) (k_l_draw : Kn G 2 "_law_draw" m_l_draw) (k_l_free : Kn G 2 "_law_free" m_l_free) : FnOk G.P G.w G.K G.mg G.base (L2N.CX G.P G.w) 3 f fd ["_law_pool_here", "_law_at", "_law_posts"] (spM G m_l_places) := by
  refine fn_ok [true, true, true, true, true, true, true, true] _ Fn sc_l_places (by decide +kernel) rfl ar3_len (fun cdv A outer s H E hr ds hl => ?_)
  obtain ⟨p_pool_here, p_at, p_posts, rfl⟩ := len3 hl
  refine ⟨c_l_places p_pool_here p_at p_posts, rfl, ?_⟩
  unfold c_l_places
  refine bm_lit [.val p_pool_here, .val p_at, .val p_posts, .unk, .unk, .unk, .unk, .unk] rfl ?_
  refine bm_asgO 3 (gf_set 3 rfl rfl (fe_lst (am_nil))) .nil fun v1_places_here => ?_
  refine bm_lit [.val p_pool_here, .val p_at, .val p_posts, .own v1_places_here, .unk, .unk, .unk, .unk] rfl ?_
  refine bm_for (T := Unit) (fj := (fun (v2_j : D) => [.val p_pool_here, .val p_at, .val p_posts, .own v2_j, .unk, .unk, .unk, .unk])) (j0 := v1_places_here) (im_range1 (by rfl) B.f_range (am_cons (em_var 2 rfl rfl rfl) am_nil)) .nil (.same (.same (.same (.same (.unk (.unk (.unk (.unk .nil)))))))) rfl (tg_name 4 rfl rfl) (fun v3_k v2_j => ?_) (fun v2_j => ?_) rfl
  · skip
    refine .inl ⟨_, rfl, ?_⟩
    refine bm_lit [.val p_pool_here, .val p_at, .val p_posts, .own v2_j, .val v3_k, .unk, .unk, .unk] rfl ?_
    refine bm_asg 5 (gm_set 5 rfl rfl (em_call k_l_draw rfl (by rfl) (am_cons (em_var 0 rfl rfl rfl) (am_cons (em_add (em_var 1 rfl rfl rfl) (em_mul em_int (em_var 4 rfl rfl rfl))) (am_cons em_int am_nil))))) .nil fun v4_x => ?_
    refine bm_lit [.val p_pool_here, .val p_at, .val p_posts, .own v2_j, .val v3_k, .val v4_x, .unk, .unk] rfl ?_
    refine bm_asg 6 (gm_set 6 rfl rfl (em_call k_l_draw rfl (by rfl) (am_cons (em_var 0 rfl rfl rfl) (am_cons (em_add (em_add (em_var 1 rfl rfl rfl) (em_mul em_int (em_var 4 rfl rfl rfl))) em_int) (am_cons em_int am_nil))))) .nil fun v5_y => ?_
    refine bm_lit [.val p_pool_here, .val p_at, .val p_posts, .own v2_j, .val v3_k, .val v4_x, .val v5_y, .unk] rfl ?_
    refine bm_for (T := Unit) (fj := (fun (v6_j : D) => [.val p_pool_here, .val p_at, .val p_posts, .own v6_j, .val v3_k, .val v4_x, .val v5_y, .unk])) (j0 := v2_j) (im_range1 (by rfl) B.f_range (am_cons em_int am_nil)) .nil (.same (.same (.same (.same (.same (.same (.same (.unk .nil)))))))) rfl (tg_name 7 rfl rfl) (fun v7_j v6_j => ?_) (fun v6_j => ?_) rfl
    · skip
      refine .inl ⟨_, rfl, ?_⟩
      refine bm_lit [.val p_pool_here, .val p_at, .val p_posts, .own v6_j, .val v3_k, .val v4_x, .val v5_y, .val v7_j] rfl ?_
      refine bm_if (fj := (fun (v8_j : D) => [.val p_pool_here, .val p_at, .val p_posts, .own v8_j, .val v3_k, .val v4_x, .val v5_y, .val v7_j])) (tm_look (tm_w (wm_and (tm_cmp ok_eq rm_eq (em_len (by rfl) B.f_len (am_cons (em_var 3 rfl rfl rfl) am_nil)) (em_var 4 rfl rfl rfl) (nomark _)) (wm_and1 (tm_val (em_call k_l_free rfl (by rfl) (am_cons (em_var 3 rfl rfl rfl) (am_cons (em_tup (am_cons (em_add (em_var 5 rfl rfl rfl) (em_var 7 rfl rfl rfl)) (am_cons (em_add (em_var 6 rfl rfl rfl) (em_mul (em_var 7 rfl rfl rfl) (em_var 7 rfl rfl rfl))) am_nil))) am_nil))) (fun _ _ _ => rfl)))))) .nil ?_ ?_ (fun v8_j => ?_)
      · skip
        refine bm_lit [.val p_pool_here, .val p_at, .val p_posts, .own v6_j, .val v3_k, .val v4_x, .val v5_y, .val v7_j] rfl ?_
        refine bm_app 3 rfl (em_tup (am_cons (em_add (em_var 5 rfl rfl rfl) (em_var 7 rfl rfl rfl)) (am_cons (em_add (em_var 6 rfl rfl rfl) (em_mul (em_var 7 rfl rfl rfl) (em_var 7 rfl rfl rfl))) am_nil))) .nil (fun v9_places_here => ?_) (fun t q Y hY => pe_bm PySem.F.plainAttrs_list PySem.F.slot_list_append PySem.F.type_list_append mt_append (pvar 3 rfl rfl Y hY) (pa_cons (q Y hY) pa_nil))
        exact bm_nil (s := v9_places_here) (.same (.same (.same (.same (.same (.same (.same (.same .nil))))))))
      · skip
        exact bm_nil (s := v6_j) (.same (.same (.same (.same (.same (.same (.same (.same .nil))))))))
      exact bm_nil (s := v8_j) (.same (.same (.same (.same (.same (.same (.same (.unk .nil))))))))
    exact bm_nil (s := v6_j) (.same (.same (.same (.same (.unk (.unk (.unk (.unk .nil))))))))
  refine bm_lit [.val p_pool_here, .val p_at, .val p_posts, .own v2_j, .unk, .unk, .unk, .unk] rfl ?_
  refine bm_give 3 rfl ?_
  exact bm_ret (he := em_var 3 rfl rfl rfl) .nil
abbrev s_l_pool : Stmt := topS 35
theorem sc_l_pool : FnScope ["_law_script", "_law_pool_here", "_law_cell", "_law_rest", "_law_k", "_law_mixed"] ["_law_script"] (defScope s_l_pool) := ⟨rfl, rfl, rfl, by decide +kernel, rfl, by decide +kernel, by decide +kernel⟩
theorem ok_l_pool {G : GG} {f : Addr} {fd : FuncData} (Fn : Fun G.K "_law_pool" "_law_pool" s_l_pool f fd) (B : Bi G) : FnOk G.P G.w G.K G.mg G.base (L2N.CX G.P G.w) 1 f fd ["_law_script"] (spM G m_l_pool) := by
  refine fn_ok [true, true, true, true, true, true] _ Fn sc_l_pool (by decide +kernel) rfl ar1_len (fun cdv A outer s H E hr ds hl => ?_)
  obtain ⟨p_script, rfl⟩ := len1 hl
  refine ⟨c_l_pool p_script, rfl, ?_⟩
  unfold c_l_pool
  refine bm_lit [.val p_script, .unk, .unk, .unk, .unk, .unk] rfl ?_
  refine bm_asgO 1 (gf_set 1 rfl rfl (fe_lst (am_nil))) .nil fun v1_pool_here => ?_
  refine bm_lit [.val p_script, .own v1_pool_here, .unk, .unk, .unk, .unk] rfl ?_
  refine bm_for (T := Unit) (fj := (fun (v2_j : D) => [.val p_script, .own v2_j, .unk, .unk, .unk, .unk])) (j0 := v1_pool_here) (im_seq (em_var 0 rfl rfl rfl)) .nil (.same (.same (.unk (.unk (.unk (.unk .nil)))))) rfl (tg_name 2 rfl rfl) (fun v3_cell v2_j => ?_) (fun v2_j => ?_) rfl
  · skip
    refine .inl ⟨_, rfl, ?_⟩
    refine bm_lit [.val p_script, .own v2_j, .val v3_cell, .unk, .unk, .unk] rfl ?_
    refine bm_asg 3 (gm_set 3 rfl rfl (em_var 2 rfl rfl rfl)) .nil fun v4_rest => ?_
    refine bm_lit [.val p_script, .own v2_j, .val v3_cell, .val v4_rest, .unk, .unk] rfl ?_
    refine bm_if (fj := (fun (v5_j : D) => [.val p_script, .own v5_j, .val v3_cell, .unk, .unk, .unk])) (tm_cmp ok_ge rm_ge (em_var 2 rfl rfl rfl) (em_pow em_int em_int) (nomark _)) .nil ?_ ?_ (fun v5_j => ?_)
    · skip
      refine bm_lit [.val p_script, .own v2_j, .val v3_cell, .val v4_rest, .unk, .unk] rfl ?_
      refine bm_for (T := Unit) (fj := (fun (v6_j : D × D) => [.val p_script, .own v6_j.1, .val v3_cell, .val v6_j.2, .unk, .unk])) (j0 := (v2_j, v4_rest)) (im_range1 (by rfl) B.f_range (am_cons em_int am_nil)) .nil (.same (.same (.same (.same (.unk (.unk .nil)))))) rfl (tg_name 4 rfl rfl) (fun v7_k v6_j => ?_) (fun v6_j => ?_) rfl
      · skip
        refine .inl ⟨_, rfl, ?_⟩
        refine bm_lit [.val p_script, .own v6_j.1, .val v3_cell, .val v6_j.2, .val v7_k, .unk] rfl ?_
        refine bm_if (fj := (fun (v8_j : D × D) => [.val p_script, .own v8_j.1, .val v3_cell, .val v8_j.2, .val v7_k, .unk])) (tm_cmp ok_gt rm_gt (em_var 3 rfl rfl rfl) em_int (nomark _)) .nil ?_ ?_ (fun v8_j => ?_)
        · skip
          refine bm_lit [.val p_script, .own v6_j.1, .val v3_cell, .val v6_j.2, .val v7_k, .unk] rfl ?_
          refine bm_app 1 rfl (em_mod (em_int_of (by rfl) B.f_int (am_cons (em_var 3 rfl rfl rfl) am_nil)) em_int) .nil (fun v9_pool_here => ?_) (fun t q Y hY => pe_bm PySem.F.plainAttrs_list PySem.F.slot_list_append PySem.F.type_list_append mt_append (pvar 1 rfl rfl Y hY) (pa_cons (q Y hY) pa_nil))
          refine bm_lit [.val p_script, .own v9_pool_here, .val v3_cell, .val v6_j.2, .val v7_k, .unk] rfl ?_
          refine bm_asg 3 (gm_set 3 rfl rfl (em_div (em_var 3 rfl rfl rfl) em_int)) .nil fun v10_rest => ?_
          exact bm_nil (s := (v9_pool_here, v10_rest)) (.same (.same (.same (.same (.same (.unk .nil))))))
        · skip
          exact bm_nil (s := (v6_j.1, v6_j.2)) (.same (.same (.same (.same (.same (.unk .nil))))))
        exact bm_nil (s := (v8_j.1, v8_j.2)) (.same (.same (.same (.same (.unk (.unk .nil))))))
      exact bm_nil (s := v6_j.1) (.same (.same (.same (.unk (.unk (.unk .nil))))))
    · skip
      refine bm_lit [.val p_script, .own v2_j, .val v3_cell, .val v4_rest, .unk, .unk] rfl ?_
      refine bm_for (T := Unit) (fj := (fun (v12_j : D) => [.val p_script, .own v12_j, .val v3_cell, .val v4_rest, .unk, .unk])) (j0 := v2_j) (im_range1 (by rfl) B.f_range (am_cons em_int am_nil)) .nil (.same (.same (.same (.same (.unk (.unk .nil)))))) rfl (tg_name 4 rfl rfl) (fun v13_k v12_j => ?_) (fun v12_j => ?_) rfl
      · skip
        refine .inl ⟨_, rfl, ?_⟩
        refine bm_lit [.val p_script, .own v12_j, .val v3_cell, .val v4_rest, .val v13_k, .unk] rfl ?_
        refine bm_asg 5 (gm_set 5 rfl rfl (em_mod (em_int_of (by rfl) B.f_int (am_cons (em_add (em_add (em_mul (em_var 2 rfl rfl rfl) em_int) (em_mul (em_var 4 rfl rfl rfl) em_int)) em_int) am_nil)) em_int)) .nil fun v14_mixed => ?_
        refine bm_lit [.val p_script, .own v12_j, .val v3_cell, .val v4_rest, .val v13_k, .val v14_mixed] rfl ?_
        refine bm_app 1 rfl (em_div (em_mod (em_int_of (by rfl) B.f_int (am_cons (em_add (em_mul (em_var 5 rfl rfl rfl) em_int) (em_var 4 rfl rfl rfl)) am_nil)) em_int) em_int) .nil (fun v15_pool_here => ?_) (fun t q Y hY => pe_bm PySem.F.plainAttrs_list PySem.F.slot_list_append PySem.F.type_list_append mt_append (pvar 1 rfl rfl Y hY) (pa_cons (q Y hY) pa_nil))
        exact bm_nil (s := v15_pool_here) (.same (.same (.same (.same (.unk (.unk .nil))))))
      exact bm_nil (s := v12_j) (.same (.same (.same (.unk (.unk (.unk .nil))))))
    exact bm_nil (s := v5_j) (.same (.same (.unk (.unk (.unk (.unk .nil))))))
  refine bm_lit [.val p_script, .own v2_j, .unk, .unk, .unk, .unk] rfl ?_
  refine bm_give 1 rfl ?_
  exact bm_ret (he := em_var 1 rfl rfl rfl) .nil
abbrev s_l_ways : Stmt := topS 44
theorem sc_l_ways : FnScope ["_law_turns_here", "_law_posts", "_law_ways_here", "_law_a", "_law_b", "_law_c"] ["_law_turns_here", "_law_posts"] (defScope s_l_ways) := ⟨rfl, rfl, rfl, by decide +kernel, rfl, by decide +kernel, by decide +kernel⟩
theorem ok_l_ways {G : GG} {f : Addr} {fd : FuncData} (Fn : Fun G.K "_law_ways" "_law_ways" s_l_ways f fd) (B : Bi G) (k_l_can_pass : Kn G 1 "_law_can_pass" m_l_can_pass) : FnOk G.P G.w G.K G.mg G.base (L2N.CX G.P G.w) 2 f fd ["_law_turns_here", "_law_posts"] (spM G m_l_ways) := by
  refine fn_ok [true, true, true, true, true, true] _ Fn sc_l_ways (by decide +kernel) rfl ar2_len (fun cdv A outer s H E hr ds hl => ?_)
  obtain ⟨p_turns_here, p_posts, rfl⟩ := len2 hl
  refine ⟨c_l_ways p_turns_here p_posts, rfl, ?_⟩
  unfold c_l_ways
  refine bm_lit [.val p_turns_here, .val p_posts, .unk, .unk, .unk, .unk] rfl ?_
  refine bm_asgO 2 (gf_set 2 rfl rfl (fe_lst (am_nil))) .nil fun v1_ways_here => ?_
  refine bm_lit [.val p_turns_here, .val p_posts, .own v1_ways_here, .unk, .unk, .unk] rfl ?_
  refine bm_for (T := Unit) (fj := (fun (v2_j : D) => [.val p_turns_here, .val p_posts, .own v2_j, .unk, .unk, .unk])) (j0 := v1_ways_here) (im_range1 (by rfl) B.f_range (am_cons (em_var 1 rfl rfl rfl) am_nil)) .nil (.same (.same (.same (.unk (.unk (.unk .nil)))))) rfl (tg_name 3 rfl rfl) (fun v3_a v2_j => ?_) (fun v2_j => ?_) rfl
  · skip
    refine .inl ⟨_, rfl, ?_⟩
    refine bm_lit [.val p_turns_here, .val p_posts, .own v2_j, .val v3_a, .unk, .unk] rfl ?_
    refine bm_for (T := Unit) (fj := (fun (v4_j : D) => [.val p_turns_here, .val p_posts, .own v4_j, .val v3_a, .unk, .unk])) (j0 := v2_j) (im_range1 (by rfl) B.f_range (am_cons (em_var 1 rfl rfl rfl) am_nil)) .nil (.same (.same (.same (.same (.unk (.unk .nil)))))) rfl (tg_name 4 rfl rfl) (fun v5_b v4_j => ?_) (fun v4_j => ?_) rfl
    · skip
      refine .inl ⟨_, rfl, ?_⟩
      refine bm_lit [.val p_turns_here, .val p_posts, .own v4_j, .val v3_a, .val v5_b, .unk] rfl ?_
      refine bm_for (T := Unit) (fj := (fun (v6_j : D) => [.val p_turns_here, .val p_posts, .own v6_j, .val v3_a, .val v5_b, .unk])) (j0 := v4_j) (im_range2 (by rfl) B.f_range (am_cons (em_add (em_var 3 rfl rfl rfl) em_int) (am_cons (em_var 1 rfl rfl rfl) am_nil))) .nil (.same (.same (.same (.same (.same (.unk .nil)))))) rfl (tg_name 5 rfl rfl) (fun v7_c v6_j => ?_) (fun v6_j => ?_) rfl
      · skip
        refine .inl ⟨_, rfl, ?_⟩
        refine bm_lit [.val p_turns_here, .val p_posts, .own v6_j, .val v3_a, .val v5_b, .val v7_c] rfl ?_
        refine bm_if (fj := (fun (v8_j : D) => [.val p_turns_here, .val p_posts, .own v8_j, .val v3_a, .val v5_b, .val v7_c])) (tm_w (wm_and (tm_cmp ok_ne rm_ne (em_var 4 rfl rfl rfl) (em_var 3 rfl rfl rfl) (nomark _)) (wm_and (tm_cmp ok_ne rm_ne (em_var 4 rfl rfl rfl) (em_var 5 rfl rfl rfl) (nomark _)) (wm_and1 (tm_val (em_call k_l_can_pass rfl (by rfl) (am_cons (em_var 0 rfl rfl rfl) (am_cons (em_var 1 rfl rfl rfl) (am_cons (em_var 3 rfl rfl rfl) (am_cons (em_var 4 rfl rfl rfl) (am_cons (em_var 5 rfl rfl rfl) am_nil)))))) (fun _ _ _ => rfl)))))) .nil ?_ ?_ (fun v8_j => ?_)
        · skip
          refine bm_lit [.val p_turns_here, .val p_posts, .own v6_j, .val v3_a, .val v5_b, .val v7_c] rfl ?_
          refine bm_app 2 rfl (em_tup (am_cons (em_var 3 rfl rfl rfl) (am_cons (em_var 4 rfl rfl rfl) (am_cons (em_var 5 rfl rfl rfl) am_nil)))) .nil (fun v9_ways_here => ?_) (fun t q Y hY => pe_bm PySem.F.plainAttrs_list PySem.F.slot_list_append PySem.F.type_list_append mt_append (pvar 2 rfl rfl Y hY) (pa_cons (q Y hY) pa_nil))
          exact bm_nil (s := v9_ways_here) (.same (.same (.same (.same (.same (.same .nil))))))
        · skip
          exact bm_nil (s := v6_j) (.same (.same (.same (.same (.same (.same .nil))))))
        exact bm_nil (s := v8_j) (.same (.same (.same (.same (.same (.unk .nil))))))
      exact bm_nil (s := v6_j) (.same (.same (.same (.same (.unk (.unk .nil))))))
    exact bm_nil (s := v4_j) (.same (.same (.same (.unk (.unk (.unk .nil))))))
  refine bm_lit [.val p_turns_here, .val p_posts, .own v2_j, .unk, .unk, .unk] rfl ?_
  refine bm_give 2 rfl ?_
  exact bm_ret (he := em_var 2 rfl rfl rfl) .nil
abbrev s_l_possible : Stmt := topS 47
theorem sc_l_possible : FnScope ["_law_pool_here", "_law_posts", "_law_turns_here", "_law_ways_here", "_law_pairs", "_law_one", "_law_two", "_law_q"] ["_law_pool_here", "_law_posts", "_law_turns_here"] (defScope s_l_possible) := ⟨rfl, rfl, rfl, by decide +kernel, rfl, by decide +kernel, by decide +kernel⟩
theorem ok_l_possible {G : GG} {f : Addr} {fd : FuncData} (Fn : Fun G.K "_law_possible" "_law_possible" s_l_possible f fd) (B : Bi G) (k_l_draw : Kn G 3 "_law_draw" m_l_draw) (k_l_far : Kn G 3 "_law_far" m_l_far) (k_l_ways : Kn G 3 "_law_ways" m_l_ways) : FnOk G.P G.w G.K G.mg G.base (L2N.CX G.P G.w) 4 f fd ["_law_pool_here", "_law_posts", "_law_turns_here"] (spM G m_l_possible) := by
  refine fn_ok [true, true, true, true, true, true, true, false] _ Fn sc_l_possible (by decide +kernel) rfl ar3_len (fun cdv A outer s H E hr ds hl => ?_)
  obtain ⟨p_pool_here, p_posts, p_turns_here, rfl⟩ := len3 hl
  refine ⟨c_l_possible p_pool_here p_posts p_turns_here, rfl, ?_⟩
  unfold c_l_possible
  refine bm_lit [.val p_pool_here, .val p_posts, .val p_turns_here, .unk, .unk, .unk, .unk, .unk] rfl ?_
  refine bm_asg 3 (gm_set 3 rfl rfl (em_call k_l_ways rfl (by rfl) (am_cons (em_var 2 rfl rfl rfl) (am_cons (em_var 1 rfl rfl rfl) am_nil)))) .nil fun v1_ways_here => ?_
  refine bm_lit [.val p_pool_here, .val p_posts, .val p_turns_here, .val v1_ways_here, .unk, .unk, .unk, .unk] rfl ?_
  refine bm_asgO 4 (gf_set 4 rfl rfl (fe_lst (am_nil))) .nil fun v2_pairs => ?_
  refine bm_lit [.val p_pool_here, .val p_posts, .val p_turns_here, .val v1_ways_here, .own v2_pairs, .unk, .unk, .unk] rfl ?_
  refine bm_for (T := Unit) (fj := (fun (v3_j : D) => [.val p_pool_here, .val p_posts, .val p_turns_here, .val v1_ways_here, .own v3_j, .unk, .unk, .unk])) (j0 := v2_pairs) (im_seq (em_var 3 rfl rfl rfl)) .nil (.same (.same (.same (.same (.same (.unk (.unk (.unk .nil)))))))) rfl (tg_name 5 rfl rfl) (fun v4_one v3_j => ?_) (fun v3_j => ?_) rfl
  · skip
    refine .inl ⟨_, rfl, ?_⟩
    refine bm_lit [.val p_pool_here, .val p_posts, .val p_turns_here, .val v1_ways_here, .own v3_j, .val v4_one, .unk, .unk] rfl ?_
    refine bm_for (T := Unit) (fj := (fun (v5_j : D) => [.val p_pool_here, .val p_posts, .val p_turns_here, .val v1_ways_here, .own v5_j, .val v4_one, .unk, .unk])) (j0 := v3_j) (im_seq (em_var 3 rfl rfl rfl)) .nil (.same (.same (.same (.same (.same (.same (.unk (.unk .nil)))))))) rfl (tg_name 6 rfl rfl) (fun v6_two v5_j => ?_) (fun v5_j => ?_) rfl
    · skip
      refine .inl ⟨_, rfl, ?_⟩
      refine bm_lit [.val p_pool_here, .val p_posts, .val p_turns_here, .val v1_ways_here, .own v5_j, .val v4_one, .val v6_two, .unk] rfl ?_
      refine bm_if (fj := (fun (v8_j : D) => [.val p_pool_here, .val p_posts, .val p_turns_here, .val v1_ways_here, .own v8_j, .val v4_one, .val v6_two, .unk])) (tm_cmp ok_lt rm_lt (em_len (by rfl) B.f_len (am_cons (em_lc (blkF_of ["_law_pool_here", "_law_posts", "_law_turns_here", "_law_ways_here", "_law_pairs", "_law_one", "_law_two", "_law_q"] (defScope s_l_possible).names rfl rfl (by decide +kernel) : BlkF _ _ [("_law_q", 7)] [false, false, false, false, false, false, true, true] [false, false, false, false, false, false, false, true] _) rfl (im_seq (em_var 5 rfl rfl rfl)) (tg_name 7 rfl rfl) (fun v7_q => .inl (⟨_, _, _, rfl, ifm_one (tm_cmp ok_in rm_mem (em_var 7 rfl rfl rfl) (em_var 6 rfl rfl rfl) (by with_unfolding_all rfl)), em_var 7 rfl rfl rfl, rfl⟩))) am_nil)) em_int (nomark _)) .nil ?_ ?_ (fun v8_j => ?_)
      · skip
        refine bm_lit [.val p_pool_here, .val p_posts, .val p_turns_here, .val v1_ways_here, .own v5_j, .val v4_one, .val v6_two, .unk] rfl ?_
        refine bm_app 4 rfl (em_lst (am_cons (em_var 5 rfl rfl rfl) (am_cons (em_var 6 rfl rfl rfl) am_nil))) .nil (fun v9_pairs => ?_) (fun t q Y hY => pe_bm PySem.F.plainAttrs_list PySem.F.slot_list_append PySem.F.type_list_append mt_append (pvar 4 rfl rfl Y hY) (pa_cons (q Y hY) pa_nil))
        exact bm_nil (s := v9_pairs) (.same (.same (.same (.same (.same (.same (.same (.unk .nil))))))))
      · skip
        exact bm_nil (s := v5_j) (.same (.same (.same (.same (.same (.same (.same (.unk .nil))))))))
      exact bm_nil (s := v8_j) (.same (.same (.same (.same (.same (.same (.unk (.unk .nil))))))))
    exact bm_nil (s := v5_j) (.same (.same (.same (.same (.same (.unk (.unk (.unk .nil))))))))
  refine bm_lit [.val p_pool_here, .val p_posts, .val p_turns_here, .val v1_ways_here, .own v3_j, .unk, .unk, .unk] rfl ?_
  refine bm_give 4 rfl ?_
  refine bm_ifl (tm_cmp ok_eq rm_eq (em_var 4 rfl rfl rfl) (em_lst (am_nil)) (nomark _)) .nil ?_ ?_ ?_
  · skip
    refine bm_lit [.val p_pool_here, .val p_posts, .val p_turns_here, .val v1_ways_here, .val v3_j, .unk, .unk, .unk] rfl ?_
    exact bm_ret (he := em_call k_l_far rfl (by rfl) (am_cons (em_var 0 rfl rfl rfl) (am_cons (em_var 1 rfl rfl rfl) am_nil))) .nil
  · repeat (first | exact noNx_retO | exact noNx_ret | exact noNx_exn | exact noNx_stk | exact noNx_exnF | exact noNx_exnF2 | refine noNx_bindC (fun _ => ?_) | refine noNx_bind (fun _ => ?_) | refine noNx_ite ?_ ?_ | (dsimp only))
  refine bm_lit [.val p_pool_here, .val p_posts, .val p_turns_here, .val v1_ways_here, .val v3_j, .unk, .unk, .unk] rfl ?_
  exact bm_ret (he := em_ix (em_var 4 rfl rfl rfl) (em_call k_l_draw rfl (by rfl) (am_cons (em_var 0 rfl rfl rfl) (am_cons em_int (am_cons (em_len (by rfl) B.f_len (am_cons (em_var 4 rfl rfl rfl) am_nil)) am_nil)))) (fun _ _ => rfl)) .nil
abbrev s_l_turns : Stmt := topS 40
theorem sc_l_turns : FnScope ["_law_places_here", "_law_turns_here", "_law_a", "_law_b", "_law_c", "_law_size"] ["_law_places_here"] (defScope s_l_turns) := ⟨rfl, rfl, rfl, by decide +kernel, rfl, by decide +kernel, by decide +kernel⟩
theorem ok_l_turns {G : GG} {f : Addr} {fd : FuncData} (Fn : Fun G.K "_law_turns" "_law_turns" s_l_turns f fd) (B : Bi G) (k_l_cross : Kn G 1 "_law_cross" m_l_cross) : FnOk G.P G.w G.K G.mg G.base (L2N.CX G.P G.w) 2 f fd ["_law_places_here"] (spM G m_l_turns) := by
  refine fn_ok [true, true, true, true, true, true] _ Fn sc_l_turns (by decide +kernel) rfl ar1_len (fun cdv A outer s H E hr ds hl => ?_)
  obtain ⟨p_places_here, rfl⟩ := len1 hl
  refine ⟨c_l_turns p_places_here, rfl, ?_⟩
  unfold c_l_turns
  refine bm_lit [.val p_places_here, .unk, .unk, .unk, .unk, .unk] rfl ?_
  refine bm_asgO 1 (gf_set 1 rfl rfl (fe_dict0)) .nil fun v1_turns_here => ?_
  refine bm_lit [.val p_places_here, .own v1_turns_here, .unk, .unk, .unk, .unk] rfl ?_
  refine bm_for (T := Unit) (fj := (fun (v2_j : D) => [.val p_places_here, .own v2_j, .unk, .unk, .unk, .unk])) (j0 := v1_turns_here) (im_range1 (by rfl) B.f_range (am_cons (em_len (by rfl) B.f_len (am_cons (em_var 0 rfl rfl rfl) am_nil)) am_nil)) .nil (.same (.same (.unk (.unk (.unk (.unk .nil)))))) rfl (tg_name 2 rfl rfl) (fun v3_a v2_j => ?_) (fun v2_j => ?_) rfl
  · skip
    refine .inl ⟨_, rfl, ?_⟩
    refine bm_lit [.val p_places_here, .own v2_j, .val v3_a, .unk, .unk, .unk] rfl ?_
    refine bm_for (T := Unit) (fj := (fun (v4_j : D) => [.val p_places_here, .own v4_j, .val v3_a, .unk, .unk, .unk])) (j0 := v2_j) (im_range1 (by rfl) B.f_range (am_cons (em_len (by rfl) B.f_len (am_cons (em_var 0 rfl rfl rfl) am_nil)) am_nil)) .nil (.same (.same (.same (.unk (.unk (.unk .nil)))))) rfl (tg_name 3 rfl rfl) (fun v5_b v4_j => ?_) (fun v4_j => ?_) rfl
    · skip
      refine .inl ⟨_, rfl, ?_⟩
      refine bm_lit [.val p_places_here, .own v4_j, .val v3_a, .val v5_b, .unk, .unk] rfl ?_
      refine bm_for (T := Unit) (fj := (fun (v6_j : D) => [.val p_places_here, .own v6_j, .val v3_a, .val v5_b, .unk, .unk])) (j0 := v4_j) (im_range1 (by rfl) B.f_range (am_cons (em_len (by rfl) B.f_len (am_cons (em_var 0 rfl rfl rfl) am_nil)) am_nil)) .nil (.same (.same (.same (.same (.unk (.unk .nil)))))) rfl (tg_name 4 rfl rfl) (fun v7_c v6_j => ?_) (fun v6_j => ?_) rfl
      · skip
        refine .inl ⟨_, rfl, ?_⟩
        refine bm_lit [.val p_places_here, .own v6_j, .val v3_a, .val v5_b, .val v7_c, .unk] rfl ?_
        refine bm_if (fj := (fun (v8_j : D) => [.val p_places_here, .own v8_j, .val v3_a, .val v5_b, .val v7_c, .unk])) (tm_w (wm_and (tm_cmp ok_ne rm_ne (em_var 2 rfl rfl rfl) (em_var 3 rfl rfl rfl) (nomark _)) (wm_and (tm_cmp ok_ne rm_ne (em_var 2 rfl rfl rfl) (em_var 4 rfl rfl rfl) (nomark _)) (wm_and1 (tm_cmp ok_ne rm_ne (em_var 3 rfl rfl rfl) (em_var 4 rfl rfl rfl) (nomark _)))))) .nil ?_ ?_ (fun v8_j => ?_)
        · skip
          refine bm_lit [.val p_places_here, .own v6_j, .val v3_a, .val v5_b, .val v7_c, .unk] rfl ?_
          refine bm_asg 5 (gm_set 5 rfl rfl (em_call k_l_cross rfl (by rfl) (am_cons (em_ix (em_var 0 rfl rfl rfl) (em_var 2 rfl rfl rfl) (fun _ _ => rfl)) (am_cons (em_ix (em_var 0 rfl rfl rfl) (em_var 3 rfl rfl rfl) (fun _ _ => rfl)) (am_cons (em_ix (em_var 0 rfl rfl rfl) (em_var 4 rfl rfl rfl) (fun _ _ => rfl)) am_nil))))) .nil fun v9_size => ?_
          refine bm_lit [.val p_places_here, .own v6_j, .val v3_a, .val v5_b, .val v7_c, .val v9_size] rfl ?_
          refine bm_setitem 1 rfl rfl rfl (em_sub (em_int_of (by rfl) B.f_int (am_cons (em_cmp ok_gt rm_gt (em_var 5 rfl rfl rfl) em_int (nomark _)) am_nil)) (em_int_of (by rfl) B.f_int (am_cons (em_cmp ok_lt rm_lt (em_var 5 rfl rfl rfl) em_int (nomark _)) am_nil))) (em_tup (am_cons (em_var 2 rfl rfl rfl) (am_cons (em_var 3 rfl rfl rfl) (am_cons (em_var 4 rfl rfl rfl) am_nil)))) .nil (fun v10_turns_here => ?_)
          exact bm_nil (s := v10_turns_here) (.same (.same (.same (.same (.same (.unk .nil))))))
        · skip
          exact bm_nil (s := v6_j) (.same (.same (.same (.same (.same (.unk .nil))))))
        exact bm_nil (s := v8_j) (.same (.same (.same (.same (.unk (.unk .nil))))))
      exact bm_nil (s := v6_j) (.same (.same (.same (.unk (.unk (.unk .nil))))))
    exact bm_nil (s := v4_j) (.same (.same (.unk (.unk (.unk (.unk .nil))))))
  refine bm_lit [.val p_places_here, .own v2_j, .unk, .unk, .unk, .unk] rfl ?_
  refine bm_give 1 rfl ?_
  exact bm_ret (he := em_var 1 rfl rfl rfl) .nil
abbrev s_check_posts : Stmt := topS 7
theorem sc_check_posts : FnScope ["posts", "named", "k", "post"] ["posts", "named"] (defScope s_check_posts) := ⟨rfl, rfl, rfl, by decide +kernel, rfl, by decide +kernel, by decide +kernel⟩
theorem ok_check_posts {G : GG} {f : Addr} {fd : FuncData} (Fn : Fun G.K "check_posts" "check_posts" s_check_posts f fd) (B : Bi G) (x_BadInput : ExcK G "BadInput" 1) : FnOk G.P G.w G.K G.mg G.base (L2N.CX G.P G.w) 1 f fd ["posts", "named"] (spM G m_check_posts) := by
  refine fn_ok [true, true, true, true] _ Fn sc_check_posts (by decide +kernel) rfl ar2_len (fun cdv A outer s H E hr ds hl => ?_)
  obtain ⟨p_posts, p_named, rfl⟩ := len2 hl
  refine ⟨c_check_posts p_posts p_named, rfl, ?_⟩
  unfold c_check_posts
  refine bm_lit [.val p_posts, .val p_named, .unk, .unk] rfl ?_
  refine bm_for (T := Unit) (fj := (fun (v1_j : Unit) => [.val p_posts, .val p_named, .unk, .unk])) (j0 := ()) (im_enum (by rfl) B.f_enumerate (em_var 1 rfl rfl rfl)) .nil (.same (.same (.unk (.unk .nil)))) rfl (tg_tup 2 (tgs_cons (tg_name 2 rfl rfl) (tgs_cons (tg_name 3 rfl rfl) (tgs_nil))) rfl (tgc_len (tgc_len (tgn_len)))) (fun v2_t v1_j => ?_) (fun v1_j => ?_) rfl
  · skip
    refine (un2_cs v2_t).elim (fun h => ?_) (fun hz => .inr (hz _ _))
    obtain ⟨v3_k, v4_post, h⟩ := h
    rw [un2_at h, tgTup_at h]
    refine .inl ⟨_, rfl, ?_⟩
    refine bm_lit [.val p_posts, .val p_named, .val v3_k, .val v4_post] rfl ?_
    refine bm_ifl (tm_w (wm_or (tm_not (tm_chain ok_le rm_le ok_lt rm_lt em_int (em_var 3 rfl rfl rfl) (em_var 0 rfl rfl rfl))) (wm_or1 (tm_cmp ok_in rm_mem (em_var 3 rfl rfl rfl) (em_slice (em_var 1 rfl rfl rfl) om_none (om_some (em_var 2 rfl rfl rfl))) (by with_unfolding_all rfl))))) .nil ?_ ?_ ?_
    · skip
      refine bm_lit [.val p_posts, .val p_named, .val v3_k, .val v4_post] rfl ?_
      exact bm_raise x_BadInput rfl (by rfl) .nil
    · repeat (first | exact noNx_retO | exact noNx_ret | exact noNx_exn | exact noNx_stk | exact noNx_exnF | exact noNx_exnF2 | refine noNx_bindC (fun _ => ?_) | refine noNx_bind (fun _ => ?_) | refine noNx_ite ?_ ?_ | (dsimp only))
    exact bm_nil (s := ()) (.same (.same (.unk (.unk .nil))))
  exact bm_nil (s := ()) (.unk (.unk (.unk (.unk .nil))))
abbrev s_check_passing : Stmt := topS 8
theorem sc_check_passing : FnScope ["posts", "passing"] ["posts", "passing"] (defScope s_check_passing) := ⟨rfl, rfl, rfl, by decide +kernel, rfl, by decide +kernel, by decide +kernel⟩
theorem ok_check_passing {G : GG} {f : Addr} {fd : FuncData} (Fn : Fun G.K "check_passing" "check_passing" s_check_passing f fd) (B : Bi G) (k_check_posts : Kn G 1 "check_posts" m_check_posts) (x_BadInput : ExcK G "BadInput" 1) : FnOk G.P G.w G.K G.mg G.base (L2N.CX G.P G.w) 2 f fd ["posts", "passing"] (spM G m_check_passing) := by
  refine fn_ok [true, true] _ Fn sc_check_passing (by decide +kernel) rfl ar2_len (fun cdv A outer s H E hr ds hl => ?_)
  obtain ⟨p_posts, p_passing, rfl⟩ := len2 hl
  refine ⟨c_check_passing p_posts p_passing, rfl, ?_⟩
  unfold c_check_passing
  refine bm_lit [.val p_posts, .val p_passing] rfl ?_
  refine bm_ifl (tm_cmp ok_ne rm_ne (em_len (by rfl) B.f_len (am_cons (em_var 1 rfl rfl rfl) am_nil)) em_int (nomark _)) .nil ?_ ?_ ?_
  · skip
    refine bm_lit [.val p_posts, .val p_passing] rfl ?_
    exact bm_raise x_BadInput rfl (by rfl) .nil
  · repeat (first | exact noNx_retO | exact noNx_ret | exact noNx_exn | exact noNx_stk | exact noNx_exnF | exact noNx_exnF2 | refine noNx_bindC (fun _ => ?_) | refine noNx_bind (fun _ => ?_) | refine noNx_ite ?_ ?_ | (dsimp only))
  refine bm_lit [.val p_posts, .val p_passing] rfl ?_
  refine bm_expr (em_call k_check_posts rfl (by rfl) (am_cons (em_var 0 rfl rfl rfl) (am_cons (em_var 1 rfl rfl rfl) am_nil))) .nil ?_
  exact bm_nil (s := ()) (.unk (.unk .nil))
abbrev s_position : Stmt := topS 10
theorem sc_position : FnScope ["a", "b", "c"] ["a", "b", "c"] (defScope s_position) := ⟨rfl, rfl, rfl, by decide +kernel, rfl, by decide +kernel, by decide +kernel⟩
theorem ok_position {G : GG} {f : Addr} {fd : FuncData} (Fn : Fun G.K "position" "position" s_position f fd) : FnOk G.P G.w G.K G.mg G.base (L2N.CX G.P G.w) 1 f fd ["a", "b", "c"] (spM G m_position) := by
  refine fn_ok [true, true, true] _ Fn sc_position (by decide +kernel) rfl ar3_len (fun cdv A outer s H E hr ds hl => ?_)
  obtain ⟨p_a, p_b, p_c, rfl⟩ := len3 hl
  refine ⟨c_position p_a p_b p_c, rfl, ?_⟩
  unfold c_position
  refine bm_lit [.val p_a, .val p_b, .val p_c] rfl ?_
  exact bm_ret (he := em_add (em_add (em_div (em_mul (em_mul (em_var 2 rfl rfl rfl) (em_sub (em_var 2 rfl rfl rfl) em_int)) (em_sub (em_var 2 rfl rfl rfl) em_int)) em_int) (em_div (em_mul (em_var 1 rfl rfl rfl) (em_sub (em_var 1 rfl rfl rfl) em_int)) em_int)) (em_var 0 rfl rfl rfl)) .nil
abbrev s_turn_of : Stmt := topS 11
theorem sc_turn_of : FnScope ["letters", "a", "b", "c", "sign", "letter"] ["letters", "a", "b", "c"] (defScope s_turn_of) := ⟨rfl, rfl, rfl, by decide +kernel, rfl, by decide +kernel, by decide +kernel⟩
theorem ok_turn_of {G : GG} {f : Addr} {fd : FuncData} (Fn : Fun G.K "turn_of" "turn_of" s_turn_of f fd) (k_position : Kn G 1 "position" m_position) : FnOk G.P G.w G.K G.mg G.base (L2N.CX G.P G.w) 2 f fd ["letters", "a", "b", "c"] (spM G m_turn_of) := by
  refine fn_ok [true, true, true, true, true, true] _ Fn sc_turn_of (by decide +kernel) rfl ar4_len (fun cdv A outer s H E hr ds hl => ?_)
  obtain ⟨p_letters, p_a, p_b, p_c, rfl⟩ := len4 hl
  refine ⟨c_turn_of p_letters p_a p_b p_c, rfl, ?_⟩
  unfold c_turn_of
  refine bm_lit [.val p_letters, .val p_a, .val p_b, .val p_c, .unk, .unk] rfl ?_
  refine bm_asg 4 (gm_set 4 rfl rfl em_int) .nil fun v1_sign => ?_
  refine bm_lit [.val p_letters, .val p_a, .val p_b, .val p_c, .val v1_sign, .unk] rfl ?_
  refine bm_if (fj := (fun (v2_j : D × D × D) => [.val p_letters, .val v2_j.1, .val v2_j.2.1, .val p_c, .val v2_j.2.2, .unk])) (tm_cmp ok_gt rm_gt (em_var 1 rfl rfl rfl) (em_var 2 rfl rfl rfl) (nomark _)) .nil ?_ ?_ (fun v2_j => ?_)
  · skip
    refine bm_lit [.val p_letters, .val p_a, .val p_b, .val p_c, .val v1_sign, .unk] rfl ?_
    refine bm_par3 1 2 4 (am_cons (em_var 2 rfl rfl rfl) (am_cons (em_var 1 rfl rfl rfl) (am_cons (em_neg (em_var 4 rfl rfl rfl)) am_nil))) .nil (fun v3_a v4_b v5_sign => ?_) rfl rfl rfl rfl (by decide) (by decide) (by decide) (by rfl) (by rfl) (by rfl) (by intro Y hY; cases hY; rfl)
    exact bm_nil (s := (v3_a, v4_b, v5_sign)) (.same (.same (.same (.same (.same (.unk .nil))))))
  · skip
    exact bm_nil (s := (p_a, p_b, v1_sign)) (.same (.same (.same (.same (.same (.unk .nil))))))
  refine bm_lit [.val p_letters, .val v2_j.1, .val v2_j.2.1, .val p_c, .val v2_j.2.2, .unk] rfl ?_
  refine bm_if (fj := (fun (v7_j : D × D × D) => [.val p_letters, .val v2_j.1, .val v7_j.1, .val v7_j.2.1, .val v7_j.2.2, .unk])) (tm_cmp ok_gt rm_gt (em_var 2 rfl rfl rfl) (em_var 3 rfl rfl rfl) (nomark _)) .nil ?_ ?_ (fun v7_j => ?_)
  · skip
    refine bm_lit [.val p_letters, .val v2_j.1, .val v2_j.2.1, .val p_c, .val v2_j.2.2, .unk] rfl ?_
    refine bm_par3 2 3 4 (am_cons (em_var 3 rfl rfl rfl) (am_cons (em_var 2 rfl rfl rfl) (am_cons (em_neg (em_var 4 rfl rfl rfl)) am_nil))) .nil (fun v8_b v9_c v10_sign => ?_) rfl rfl rfl rfl (by decide) (by decide) (by decide) (by rfl) (by rfl) (by rfl) (by intro Y hY; cases hY; rfl)
    exact bm_nil (s := (v8_b, v9_c, v10_sign)) (.same (.same (.same (.same (.same (.unk .nil))))))
  · skip
    exact bm_nil (s := (v2_j.2.1, p_c, v2_j.2.2)) (.same (.same (.same (.same (.same (.unk .nil))))))
  refine bm_lit [.val p_letters, .val v2_j.1, .val v7_j.1, .val v7_j.2.1, .val v7_j.2.2, .unk] rfl ?_
  refine bm_if (fj := (fun (v12_j : D × D × D) => [.val p_letters, .val v12_j.1, .val v12_j.2.1, .val v7_j.2.1, .val v12_j.2.2, .unk])) (tm_cmp ok_gt rm_gt (em_var 1 rfl rfl rfl) (em_var 2 rfl rfl rfl) (nomark _)) .nil ?_ ?_ (fun v12_j => ?_)
  · skip
    refine bm_lit [.val p_letters, .val v2_j.1, .val v7_j.1, .val v7_j.2.1, .val v7_j.2.2, .unk] rfl ?_
    refine bm_par3 1 2 4 (am_cons (em_var 2 rfl rfl rfl) (am_cons (em_var 1 rfl rfl rfl) (am_cons (em_neg (em_var 4 rfl rfl rfl)) am_nil))) .nil (fun v13_a v14_b v15_sign => ?_) rfl rfl rfl rfl (by decide) (by decide) (by decide) (by rfl) (by rfl) (by rfl) (by intro Y hY; cases hY; rfl)
    exact bm_nil (s := (v13_a, v14_b, v15_sign)) (.same (.same (.same (.same (.same (.unk .nil))))))
  · skip
    exact bm_nil (s := (v2_j.1, v7_j.1, v7_j.2.2)) (.same (.same (.same (.same (.same (.unk .nil))))))
  refine bm_lit [.val p_letters, .val v12_j.1, .val v12_j.2.1, .val v7_j.2.1, .val v12_j.2.2, .unk] rfl ?_
  refine bm_asg 5 (gm_set 5 rfl rfl (em_ix (em_var 0 rfl rfl rfl) (em_call k_position rfl (by rfl) (am_cons (em_var 1 rfl rfl rfl) (am_cons (em_var 2 rfl rfl rfl) (am_cons (em_var 3 rfl rfl rfl) am_nil)))) (fun _ _ => rfl))) .nil fun v17_letter => ?_
  refine bm_lit [.val p_letters, .val v12_j.1, .val v12_j.2.1, .val v7_j.2.1, .val v12_j.2.2, .val v17_letter] rfl ?_
  refine bm_ifl (tm_cmp ok_eq rm_eq (em_var 5 rfl rfl rfl) em_str (nomark _)) .nil ?_ ?_ ?_
  · skip
    refine bm_lit [.val p_letters, .val v12_j.1, .val v12_j.2.1, .val v7_j.2.1, .val v12_j.2.2, .val v17_letter] rfl ?_
    exact bm_ret (he := em_int) .nil
  · repeat (first | exact noNx_retO | exact noNx_ret | exact noNx_exn | exact noNx_stk | exact noNx_exnF | exact noNx_exnF2 | refine noNx_bindC (fun _ => ?_) | refine noNx_bind (fun _ => ?_) | refine noNx_ite ?_ ?_ | (dsimp only))
  refine bm_lit [.val p_letters, .val v12_j.1, .val v12_j.2.1, .val v7_j.2.1, .val v12_j.2.2, .val v17_letter] rfl ?_
  exact bm_ret (he := em_if (tm_cmp ok_eq rm_eq (em_var 5 rfl rfl rfl) em_str (nomark _)) (em_var 4 rfl rfl rfl) (em_neg (em_var 4 rfl rfl rfl))) .nil
abbrev s_blocker : Stmt := topS 16
theorem sc_blocker : FnScope ["letters", "posts", "a", "b", "c", "d", "seen"] ["letters", "posts", "a", "b", "c"] (defScope s_blocker) := ⟨rfl, rfl, rfl, by decide +kernel, rfl, by decide +kernel, by decide +kernel⟩
theorem ok_blocker {G : GG} {f : Addr} {fd : FuncData} (Fn : Fun G.K "blocker" "blocker" s_blocker f fd) (B : Bi G) (k_turn_of : Kn G 2 "turn_of" m_turn_of) : FnOk G.P G.w G.K G.mg G.base (L2N.CX G.P G.w) 3 f fd ["letters", "posts", "a", "b", "c"] (spM G m_blocker) := by
  refine fn_ok [true, true, true, true, true, true, true] _ Fn sc_blocker (by decide +kernel) rfl ar5_len (fun cdv A outer s H E hr ds hl => ?_)
  obtain ⟨p_letters, p_posts, p_a, p_b, p_c, rfl⟩ := len5 hl
  refine ⟨c_blocker p_letters p_posts p_a p_b p_c, rfl, ?_⟩
  unfold c_blocker
  refine bm_lit [.val p_letters, .val p_posts, .val p_a, .val p_b, .val p_c, .unk, .unk] rfl ?_
  refine bm_for (T := Unit) (fj := (fun (v1_j : Unit) => [.val p_letters, .val p_posts, .val p_a, .val p_b, .val p_c, .unk, .unk])) (j0 := ()) (im_range1 (by rfl) B.f_range (am_cons (em_var 1 rfl rfl rfl) am_nil)) .nil (.same (.same (.same (.same (.same (.unk (.unk .nil))))))) rfl (tg_name 5 rfl rfl) (fun v2_d v1_j => ?_) (fun v1_j => ?_) rfl
  · skip
    refine .inl ⟨_, rfl, ?_⟩
    refine bm_lit [.val p_letters, .val p_posts, .val p_a, .val p_b, .val p_c, .val v2_d, .unk] rfl ?_
    refine bm_if (fj := (fun (v3_j : Unit) => [.val p_letters, .val p_posts, .val p_a, .val p_b, .val p_c, .val v2_d, .unk])) (tm_cmp ok_ni rm_mem (em_var 5 rfl rfl rfl) (em_tup (am_cons (em_var 2 rfl rfl rfl) (am_cons (em_var 3 rfl rfl rfl) (am_cons (em_var 4 rfl rfl rfl) am_nil)))) (by with_unfolding_all rfl)) .nil ?_ ?_ (fun v3_j => ?_)
    · skip
      refine bm_lit [.val p_letters, .val p_posts, .val p_a, .val p_b, .val p_c, .val v2_d, .unk] rfl ?_
      refine bm_asg 6 (gm_set 6 rfl rfl (em_call k_turn_of rfl (by rfl) (am_cons (em_var 0 rfl rfl rfl) (am_cons (em_var 5 rfl rfl rfl) (am_cons (em_var 2 rfl rfl rfl) (am_cons (em_var 3 rfl rfl rfl) am_nil)))))) .nil fun v4_seen => ?_
      refine bm_lit [.val p_letters, .val p_posts, .val p_a, .val p_b, .val p_c, .val v2_d, .val v4_seen] rfl ?_
      refine bm_ifl (tm_w (wm_or (tm_cmp ok_ne rm_ne (em_var 6 rfl rfl rfl) (em_call k_turn_of rfl (by rfl) (am_cons (em_var 0 rfl rfl rfl) (am_cons (em_var 5 rfl rfl rfl) (am_cons (em_var 3 rfl rfl rfl) (am_cons (em_var 4 rfl rfl rfl) am_nil))))) (nomark _)) (wm_or1 (tm_cmp ok_ne rm_ne (em_var 6 rfl rfl rfl) (em_call k_turn_of rfl (by rfl) (am_cons (em_var 0 rfl rfl rfl) (am_cons (em_var 5 rfl rfl rfl) (am_cons (em_var 2 rfl rfl rfl) (am_cons (em_var 4 rfl rfl rfl) am_nil))))) (nomark _))))) .nil ?_ ?_ ?_
      · skip
        refine bm_lit [.val p_letters, .val p_posts, .val p_a, .val p_b, .val p_c, .val v2_d, .val v4_seen] rfl ?_
        exact bm_ret (he := em_var 5 rfl rfl rfl) .nil
      · repeat (first | exact noNx_retO | exact noNx_ret | exact noNx_exn | exact noNx_stk | exact noNx_exnF | exact noNx_exnF2 | refine noNx_bindC (fun _ => ?_) | refine noNx_bind (fun _ => ?_) | refine noNx_ite ?_ ?_ | (dsimp only))
      exact bm_nil (s := ()) (.same (.same (.same (.same (.same (.same (.unk .nil)))))))
    · skip
      exact bm_nil (s := ()) (.same (.same (.same (.same (.same (.same (.unk .nil)))))))
    exact bm_nil (s := ()) (.same (.same (.same (.same (.same (.unk (.unk .nil)))))))
  refine bm_lit [.val p_letters, .val p_posts, .val p_a, .val p_b, .val p_c, .unk, .unk] rfl ?_
  exact bm_ret (he := em_non) .nil
abbrev s_with_reversed : Stmt := topS 12
theorem sc_with_reversed : FnScope ["letters", "a", "b", "c", "low", "middle", "high", "at", "other"] ["letters", "a", "b", "c"] (defScope s_with_reversed) := ⟨rfl, rfl, rfl, by decide +kernel, rfl, by decide +kernel, by decide +kernel⟩
theorem ok_with_reversed {G : GG} {f : Addr} {fd : FuncData} (Fn : Fun G.K "with_reversed" "with_reversed" s_with_reversed f fd) (B : Bi G) (k_position : Kn G 1 "position" m_position) : FnOk G.P G.w G.K G.mg G.base (L2N.CX G.P G.w) 2 f fd ["letters", "a", "b", "c"] (spM G m_with_reversed) := by
  refine fn_ok [true, true, true, true, true, true, true, true, true] _ Fn sc_with_reversed (by decide +kernel) rfl ar4_len (fun cdv A outer s H E hr ds hl => ?_)
  obtain ⟨p_letters, p_a, p_b, p_c, rfl⟩ := len4 hl
  refine ⟨c_with_reversed p_letters p_a p_b p_c, rfl, ?_⟩
  unfold c_with_reversed
  refine bm_lit [.val p_letters, .val p_a, .val p_b, .val p_c, .unk, .unk, .unk, .unk, .unk] rfl ?_
  refine bm_asgT (em_sorted (by rfl) B.f_sorted (am_cons (em_lst (am_cons (em_var 1 rfl rfl rfl) (am_cons (em_var 2 rfl rfl rfl) (am_cons (em_var 3 rfl rfl rfl) am_nil)))) am_nil)) (tg_tup 3 (tgs_cons (tg_name 4 rfl rfl) (tgs_cons (tg_name 5 rfl rfl) (tgs_cons (tg_name 6 rfl rfl) (tgs_nil)))) rfl (tgc_len (tgc_len (tgc_len (tgn_len))))) .nil (fun v1_t => ?_)
  refine (un3_cs v1_t).elim (fun h => ?_) (fun hz => .inr (hz _ _))
  obtain ⟨v2_low, v3_middle, v4_high, h⟩ := h
  rw [un3_at h, tgTup_at h]
  refine .inl ⟨_, rfl, ?_⟩
  refine bm_lit [.val p_letters, .val p_a, .val p_b, .val p_c, .val v2_low, .val v3_middle, .val v4_high, .unk, .unk] rfl ?_
  refine bm_asg 7 (gm_set 7 rfl rfl (em_call k_position rfl (by rfl) (am_cons (em_var 4 rfl rfl rfl) (am_cons (em_var 5 rfl rfl rfl) (am_cons (em_var 6 rfl rfl rfl) am_nil))))) .nil fun v5_at => ?_
  refine bm_lit [.val p_letters, .val p_a, .val p_b, .val p_c, .val v2_low, .val v3_middle, .val v4_high, .val v5_at, .unk] rfl ?_
  refine bm_asg 8 (gm_set 8 rfl rfl (em_ix (em_disp (l := [("L", "R"), ("R", "L"), ("?", "?")]) (.cons (.cons (.cons .nil))) (fun z => nomatch z) (by decide) rfl) (em_ix (em_var 0 rfl rfl rfl) (em_var 7 rfl rfl rfl) (fun _ _ => rfl)) (fun _ _ => rfl))) .nil fun v6_other => ?_
  refine bm_lit [.val p_letters, .val p_a, .val p_b, .val p_c, .val v2_low, .val v3_middle, .val v4_high, .val v5_at, .val v6_other] rfl ?_
  exact bm_ret (he := em_add (em_add (em_slice (em_var 0 rfl rfl rfl) om_none (om_some (em_var 7 rfl rfl rfl))) (em_var 8 rfl rfl rfl)) (em_slice (em_var 0 rfl rfl rfl) (om_some (em_add (em_var 7 rfl rfl rfl) em_int)) om_none)) .nil
abbrev s_breaks_five : Stmt := topS 13
theorem sc_breaks_five : FnScope ["letters", "x", "a", "b", "c", "d", "first", "second", "third"] ["letters", "x", "a", "b", "c", "d"] (defScope s_breaks_five) := ⟨rfl, rfl, rfl, by decide +kernel, rfl, by decide +kernel, by decide +kernel⟩
theorem ok_breaks_five {G : GG} {f : Addr} {fd : FuncData} (Fn : Fun G.K "breaks_five" "breaks_five" s_breaks_five f fd) (k_turn_of : Kn G 2 "turn_of" m_turn_of) : FnOk G.P G.w G.K G.mg G.base (L2N.CX G.P G.w) 3 f fd ["letters", "x", "a", "b", "c", "d"] (spM G m_breaks_five) := by
  refine fn_ok [true, true, true, true, true, true, true, true, true] _ Fn sc_breaks_five (by decide +kernel) rfl ar6_len (fun cdv A outer s H E hr ds hl => ?_)
  obtain ⟨p_letters, p_x, p_a, p_b, p_c, p_d, rfl⟩ := len6 hl
  refine ⟨c_breaks_five p_letters p_x p_a p_b p_c p_d, rfl, ?_⟩
  unfold c_breaks_five
  refine bm_lit [.val p_letters, .val p_x, .val p_a, .val p_b, .val p_c, .val p_d, .unk, .unk, .unk] rfl ?_
  refine bm_asg 6 (gm_set 6 rfl rfl (em_mul (em_call k_turn_of rfl (by rfl) (am_cons (em_var 0 rfl rfl rfl) (am_cons (em_var 1 rfl rfl rfl) (am_cons (em_var 2 rfl rfl rfl) (am_cons (em_var 3 rfl rfl rfl) am_nil))))) (em_call k_turn_of rfl (by rfl) (am_cons (em_var 0 rfl rfl rfl) (am_cons (em_var 1 rfl rfl rfl) (am_cons (em_var 4 rfl rfl rfl) (am_cons (em_var 5 rfl rfl rfl) am_nil))))))) .nil fun v1_first => ?_
  refine bm_lit [.val p_letters, .val p_x, .val p_a, .val p_b, .val p_c, .val p_d, .val v1_first, .unk, .unk] rfl ?_
  refine bm_asg 7 (gm_set 7 rfl rfl (em_mul (em_neg (em_call k_turn_of rfl (by rfl) (am_cons (em_var 0 rfl rfl rfl) (am_cons (em_var 1 rfl rfl rfl) (am_cons (em_var 2 rfl rfl rfl) (am_cons (em_var 4 rfl rfl rfl) am_nil)))))) (em_call k_turn_of rfl (by rfl) (am_cons (em_var 0 rfl rfl rfl) (am_cons (em_var 1 rfl rfl rfl) (am_cons (em_var 3 rfl rfl rfl) (am_cons (em_var 5 rfl rfl rfl) am_nil))))))) .nil fun v2_second => ?_
  refine bm_lit [.val p_letters, .val p_x, .val p_a, .val p_b, .val p_c, .val p_d, .val v1_first, .val v2_second, .unk] rfl ?_
  refine bm_asg 8 (gm_set 8 rfl rfl (em_mul (em_call k_turn_of rfl (by rfl) (am_cons (em_var 0 rfl rfl rfl) (am_cons (em_var 1 rfl rfl rfl) (am_cons (em_var 2 rfl rfl rfl) (am_cons (em_var 5 rfl rfl rfl) am_nil))))) (em_call k_turn_of rfl (by rfl) (am_cons (em_var 0 rfl rfl rfl) (am_cons (em_var 1 rfl rfl rfl) (am_cons (em_var 3 rfl rfl rfl) (am_cons (em_var 4 rfl rfl rfl) am_nil))))))) .nil fun v3_third => ?_
  refine bm_lit [.val p_letters, .val p_x, .val p_a, .val p_b, .val p_c, .val p_d, .val v1_first, .val v2_second, .val v3_third] rfl ?_
  exact bm_ret (he := em_chain3 ok_eq rm_eq ok_eq rm_eq ok_ne rm_ne (em_var 6 rfl rfl rfl) (em_var 7 rfl rfl rfl) (em_var 8 rfl rfl rfl) em_int) .nil
abbrev s_last_breach : Stmt := topS 14
theorem sc_last_breach : FnScope ["letters", "a", "b", "c", "w", "four", "p", "q", "r", "v", "x", "s", "post"] ["letters", "a", "b", "c"] (defScope s_last_breach) := ⟨rfl, rfl, rfl, by decide +kernel, rfl, by decide +kernel, by decide +kernel⟩
theorem ok_last_breach {G : GG} {f : Addr} {fd : FuncData} (Fn : Fun G.K "last_breach" "last_breach" s_last_breach f fd) (B : Bi G) (k_breaks_five : Kn G 3 "breaks_five" m_breaks_five) (k_position : Kn G 3 "position" m_position) : FnOk G.P G.w G.K G.mg G.base (L2N.CX G.P G.w) 4 f fd ["letters", "a", "b", "c"] (spM G m_last_breach) := by
  refine fn_ok [true, true, true, true, true, true, true, true, true, true, true, true, false] _ Fn sc_last_breach (by decide +kernel) rfl ar4_len (fun cdv A outer s H E hr ds hl => ?_)
  obtain ⟨p_letters, p_a, p_b, p_c, rfl⟩ := len4 hl
  refine ⟨c_last_breach p_letters p_a p_b p_c, rfl, ?_⟩
  unfold c_last_breach
  refine bm_lit [.val p_letters, .val p_a, .val p_b, .val p_c, .unk, .unk, .unk, .unk, .unk, .unk, .unk, .unk, .unk] rfl ?_
  refine bm_for (T := Unit) (fj := (fun (v1_j : Unit) => [.val p_letters, .val p_a, .val p_b, .val p_c, .unk, .unk, .unk, .unk, .unk, .unk, .unk, .unk, .unk])) (j0 := ()) (im_range1 (by rfl) B.f_range (am_cons (em_var 1 rfl rfl rfl) am_nil)) .nil (.same (.same (.same (.same (.unk (.unk (.unk (.unk (.unk (.unk (.unk (.unk (.unk .nil))))))))))))) rfl (tg_name 4 rfl rfl) (fun v2_w v1_j => ?_) (fun v1_j => ?_) rfl
  · skip
    refine .inl ⟨_, rfl, ?_⟩
    refine bm_lit [.val p_letters, .val p_a, .val p_b, .val p_c, .val v2_w, .unk, .unk, .unk, .unk, .unk, .unk, .unk, .unk] rfl ?_
    refine bm_asg 5 (gm_set 5 rfl rfl (em_lst (am_cons (em_tup (am_cons (em_var 4 rfl rfl rfl) (am_cons (em_var 1 rfl rfl rfl) (am_cons (em_var 2 rfl rfl rfl) am_nil)))) (am_cons (em_tup (am_cons (em_var 4 rfl rfl rfl) (am_cons (em_var 1 rfl rfl rfl) (am_cons (em_var 3 rfl rfl rfl) am_nil)))) (am_cons (em_tup (am_cons (em_var 4 rfl rfl rfl) (am_cons (em_var 2 rfl rfl rfl) (am_cons (em_var 3 rfl rfl rfl) am_nil)))) (am_cons (em_tup (am_cons (em_var 1 rfl rfl rfl) (am_cons (em_var 2 rfl rfl rfl) (am_cons (em_var 3 rfl rfl rfl) am_nil)))) am_nil)))))) .nil fun v3_four => ?_
    refine bm_lit [.val p_letters, .val p_a, .val p_b, .val p_c, .val v2_w, .val v3_four, .unk, .unk, .unk, .unk, .unk, .unk, .unk] rfl ?_
    refine bm_ifl (tm_cmp ok_in rm_mem (em_join em_str (em_lc (blkF_of ["letters", "a", "b", "c", "w", "four", "p", "q", "r", "v", "x", "s", "post"] (defScope s_last_breach).names rfl rfl (by decide +kernel) : BlkF _ _ [("p", 6), ("q", 7), ("r", 8)] [true, false, false, false, false, false, true, true, true, false, false, false, false] [false, false, false, false, false, false, true, true, true, false, false, false, false] _) rfl (im_seq (em_var 5 rfl rfl rfl)) (tg_tup 3 (tgs_cons (tg_name 6 rfl rfl) (tgs_cons (tg_name 7 rfl rfl) (tgs_cons (tg_name 8 rfl rfl) (tgs_nil)))) rfl (tgc_len (tgc_len (tgc_len (tgn_len))))) (fun v4_t => (by refine (un3_cs v4_t).elim (fun h => ?_) (fun hz => .inr (hz _ _)); obtain ⟨v5_p, v6_q, v7_r, h⟩ := h; rw [un3_at h, tgTup_at h]; exact .inl (⟨_, _, _, rfl, ifm_nil, em_ix (em_var 0 rfl rfl rfl) (em_call k_position rfl (by rfl) (am_cons (em_var 6 rfl rfl rfl) (am_cons (em_var 7 rfl rfl rfl) (am_cons (em_var 8 rfl rfl rfl) am_nil)))) (fun _ _ => rfl), rfl⟩))))) (em_tup (am_cons em_str (am_cons em_str am_nil))) (by with_unfolding_all rfl)) .nil ?_ ?_ ?_
    · skip
      refine bm_lit [.val p_letters, .val p_a, .val p_b, .val p_c, .val v2_w, .val v3_four, .unk, .unk, .unk, .unk, .unk, .unk, .unk] rfl ?_
      exact bm_ret (he := em_tup (am_cons (em_var 4 rfl rfl rfl) (am_cons (em_var 1 rfl rfl rfl) (am_cons (em_var 2 rfl rfl rfl) (am_cons (em_var 3 rfl rfl rfl) am_nil))))) .nil
    · repeat (first | exact noNx_retO | exact noNx_ret | exact noNx_exn | exact noNx_stk | exact noNx_exnF | exact noNx_exnF2 | refine noNx_bindC (fun _ => ?_) | refine noNx_bind (fun _ => ?_) | refine noNx_ite ?_ ?_ | (dsimp only))
    exact bm_nil (s := ()) (.same (.same (.same (.same (.unk (.unk (.unk (.unk (.unk (.unk (.unk (.unk (.unk .nil)))))))))))))
  refine bm_lit [.val p_letters, .val p_a, .val p_b, .val p_c, .unk, .unk, .unk, .unk, .unk, .unk, .unk, .unk, .unk] rfl ?_
  refine bm_for (T := Unit) (fj := (fun (v8_j : Unit) => [.val p_letters, .val p_a, .val p_b, .val p_c, .unk, .unk, .unk, .unk, .unk, .unk, .unk, .unk, .unk])) (j0 := ()) (im_range1 (by rfl) B.f_range (am_cons (em_var 1 rfl rfl rfl) am_nil)) .nil (.same (.same (.same (.same (.unk (.unk (.unk (.unk (.unk (.unk (.unk (.unk (.unk .nil))))))))))))) rfl (tg_name 4 rfl rfl) (fun v9_w v8_j => ?_) (fun v8_j => ?_) rfl
  · skip
    refine .inl ⟨_, rfl, ?_⟩
    refine bm_lit [.val p_letters, .val p_a, .val p_b, .val p_c, .val v9_w, .unk, .unk, .unk, .unk, .unk, .unk, .unk, .unk] rfl ?_
    refine bm_for (T := Unit) (fj := (fun (v10_j : Unit) => [.val p_letters, .val p_a, .val p_b, .val p_c, .val v9_w, .unk, .unk, .unk, .unk, .unk, .unk, .unk, .unk])) (j0 := ()) (im_range1 (by rfl) B.f_range (am_cons (em_var 4 rfl rfl rfl) am_nil)) .nil (.same (.same (.same (.same (.same (.unk (.unk (.unk (.unk (.unk (.unk (.unk (.unk .nil))))))))))))) rfl (tg_name 9 rfl rfl) (fun v11_v v10_j => ?_) (fun v10_j => ?_) rfl
    · skip
      refine .inl ⟨_, rfl, ?_⟩
      refine bm_lit [.val p_letters, .val p_a, .val p_b, .val p_c, .val v9_w, .unk, .unk, .unk, .unk, .val v11_v, .unk, .unk, .unk] rfl ?_
      refine bm_for (T := Unit) (fj := (fun (v12_j : Unit) => [.val p_letters, .val p_a, .val p_b, .val p_c, .val v9_w, .unk, .unk, .unk, .unk, .val v11_v, .unk, .unk, .unk])) (j0 := ()) (im_seq (em_tup (am_cons (em_var 9 rfl rfl rfl) (am_cons (em_var 4 rfl rfl rfl) (am_cons (em_var 1 rfl rfl rfl) (am_cons (em_var 2 rfl rfl rfl) (am_cons (em_var 3 rfl rfl rfl) am_nil))))))) .nil (.same (.same (.same (.same (.same (.unk (.unk (.unk (.unk (.same (.unk (.unk (.unk .nil))))))))))))) rfl (tg_name 10 rfl rfl) (fun v13_x v12_j => ?_) (fun v12_j => ?_) rfl
      · skip
        refine .inl ⟨_, rfl, ?_⟩
        refine bm_lit [.val p_letters, .val p_a, .val p_b, .val p_c, .val v9_w, .unk, .unk, .unk, .unk, .val v11_v, .val v13_x, .unk, .unk] rfl ?_
        refine bm_asgT (em_lc (blkF_of ["letters", "a", "b", "c", "w", "four", "p", "q", "r", "v", "x", "s", "post"] (defScope s_last_breach).names rfl rfl (by decide +kernel) : BlkF _ _ [("post", 12)] [false, false, false, false, false, false, false, false, false, false, true, false, true] [false, false, false, false, false, false, false, false, false, false, false, false, true] _) rfl (im_seq (em_tup (am_cons (em_var 9 rfl rfl rfl) (am_cons (em_var 4 rfl rfl rfl) (am_cons (em_var 1 rfl rfl rfl) (am_cons (em_var 2 rfl rfl rfl) (am_cons (em_var 3 rfl rfl rfl) am_nil))))))) (tg_name 12 rfl rfl) (fun v14_post => .inl (⟨_, _, _, rfl, ifm_one (tm_cmp ok_ne rm_ne (em_var 12 rfl rfl rfl) (em_var 10 rfl rfl rfl) (nomark _)), em_var 12 rfl rfl rfl, rfl⟩))) (tg_tup 4 (tgs_cons (tg_name 6 rfl rfl) (tgs_cons (tg_name 7 rfl rfl) (tgs_cons (tg_name 8 rfl rfl) (tgs_cons (tg_name 11 rfl rfl) (tgs_nil))))) rfl (tgc_len (tgc_len (tgc_len (tgc_len (tgn_len)))))) .nil (fun v15_t => ?_)
        refine (un4_cs v15_t).elim (fun h => ?_) (fun hz => .inr (hz _ _))
        obtain ⟨v16_p, v17_q, v18_r, v19_s, h⟩ := h
        rw [un4_at h, tgTup_at h]
        refine .inl ⟨_, rfl, ?_⟩
        refine bm_lit [.val p_letters, .val p_a, .val p_b, .val p_c, .val v9_w, .unk, .val v16_p, .val v17_q, .val v18_r, .val v11_v, .val v13_x, .val v19_s, .unk] rfl ?_
        refine bm_ifl (tm_val (em_call k_breaks_five rfl (by rfl) (am_cons (em_var 0 rfl rfl rfl) (am_cons (em_var 10 rfl rfl rfl) (am_cons (em_var 6 rfl rfl rfl) (am_cons (em_var 7 rfl rfl rfl) (am_cons (em_var 8 rfl rfl rfl) (am_cons (em_var 11 rfl rfl rfl) am_nil))))))) (fun _ _ _ => rfl)) .nil ?_ ?_ ?_
        · skip
          refine bm_lit [.val p_letters, .val p_a, .val p_b, .val p_c, .val v9_w, .unk, .val v16_p, .val v17_q, .val v18_r, .val v11_v, .val v13_x, .val v19_s, .unk] rfl ?_
          exact bm_ret (he := em_tup (am_cons (em_var 10 rfl rfl rfl) (am_cons (em_var 6 rfl rfl rfl) (am_cons (em_var 7 rfl rfl rfl) (am_cons (em_var 8 rfl rfl rfl) (am_cons (em_var 11 rfl rfl rfl) am_nil)))))) .nil
        · repeat (first | exact noNx_retO | exact noNx_ret | exact noNx_exn | exact noNx_stk | exact noNx_exnF | exact noNx_exnF2 | refine noNx_bindC (fun _ => ?_) | refine noNx_bind (fun _ => ?_) | refine noNx_ite ?_ ?_ | (dsimp only))
        exact bm_nil (s := ()) (.same (.same (.same (.same (.same (.unk (.unk (.unk (.unk (.same (.unk (.unk (.unk .nil)))))))))))))
      exact bm_nil (s := ()) (.same (.same (.same (.same (.same (.unk (.unk (.unk (.unk (.unk (.unk (.unk (.unk .nil)))))))))))))
    exact bm_nil (s := ()) (.same (.same (.same (.same (.unk (.unk (.unk (.unk (.unk (.unk (.unk (.unk (.unk .nil)))))))))))))
  refine bm_lit [.val p_letters, .val p_a, .val p_b, .val p_c, .unk, .unk, .unk, .unk, .unk, .unk, .unk, .unk, .unk] rfl ?_
  exact bm_ret (he := em_non) .nil
abbrev s_threes : Stmt := topS 9
theorem sc_threes : FnScope ["posts", "c", "b", "a"] ["posts"] (defScope s_threes) := ⟨rfl, rfl, rfl, by decide +kernel, rfl, by decide +kernel, by decide +kernel⟩
theorem ok_threes {G : GG} {f : Addr} {fd : FuncData} (Fn : Fun G.K "threes" "threes" s_threes f fd) (B : Bi G) : FnOk G.P G.w G.K G.mg G.base (L2N.CX G.P G.w) 1 f fd ["posts"] (spM G m_threes) := by
  refine fn_ok [true, false, false, false] _ Fn sc_threes (by decide +kernel) rfl ar1_len (fun cdv A outer s H E hr ds hl => ?_)
  obtain ⟨p_posts, rfl⟩ := len1 hl
  refine ⟨c_threes p_posts, rfl, ?_⟩
  unfold c_threes
  refine bm_lit [.val p_posts, .unk, .unk, .unk] rfl ?_
  exact bm_ret (he := em_lc3 (L1 := [false, false, true, true]) (vs1 := [2, 3]) (L2 := [false, false, false, true]) (vs2 := [3]) (blkF_of ["posts", "c", "b", "a"] (defScope s_threes).names rfl rfl (by decide +kernel) : BlkF _ _ [("c", 1), ("b", 2), ("a", 3)] [false, true, true, true] [false, true, true, true] _) (by decide +kernel) (by decide +kernel) (by decide +kernel) (by decide +kernel) (by decide +kernel) (by decide +kernel) rfl (im_range1 (by rfl) B.f_range (am_cons (em_var 0 rfl rfl rfl) am_nil)) (tg_name 1 rfl rfl) (tg_name 2 rfl rfl) (tg_name 3 rfl rfl) (fun v1_c => .inl (⟨[.val p_posts, .val v1_c, .unk, .unk], _, _, rfl, ifm_nil, ⟨_, _, im_range1 (by rfl) B.f_range (am_cons (em_var 1 rfl rfl rfl) am_nil), fun v2_b => .inl (⟨[.val p_posts, .val v1_c, .val v2_b, .unk], _, _, rfl, ifm_nil, ⟨_, _, im_range1 (by rfl) B.f_range (am_cons (em_var 2 rfl rfl rfl) am_nil), fun v3_a => .inl (⟨[.val p_posts, .val v1_c, .val v2_b, .val v3_a], _, _, rfl, ifm_nil, ⟨_, em_tup (am_cons (em_var 3 rfl rfl rfl) (am_cons (em_var 2 rfl rfl rfl) (am_cons (em_var 1 rfl rfl rfl) am_nil))), rfl⟩, rfl⟩), rfl⟩, rfl⟩), rfl⟩, rfl⟩))) .nil
abbrev s_breach : Stmt := topS 15
theorem sc_breach : FnScope ["letters", "posts", "a", "b", "c", "found"] ["letters", "posts"] (defScope s_breach) := ⟨rfl, rfl, rfl, by decide +kernel, rfl, by decide +kernel, by decide +kernel⟩
theorem ok_breach {G : GG} {f : Addr} {fd : FuncData} (Fn : Fun G.K "breach" "breach" s_breach f fd) (k_last_breach : Kn G 4 "last_breach" m_last_breach) (k_threes : Kn G 4 "threes" m_threes) : FnOk G.P G.w G.K G.mg G.base (L2N.CX G.P G.w) 5 f fd ["letters", "posts"] (spM G m_breach) := by
  refine fn_ok [true, true, true, true, true, true] _ Fn sc_breach (by decide +kernel) rfl ar2_len (fun cdv A outer s H E hr ds hl => ?_)
  obtain ⟨p_letters, p_posts, rfl⟩ := len2 hl
  refine ⟨c_breach p_letters p_posts, rfl, ?_⟩
  unfold c_breach
  refine bm_lit [.val p_letters, .val p_posts, .unk, .unk, .unk, .unk] rfl ?_
  refine bm_for (T := Unit) (fj := (fun (v1_j : Unit) => [.val p_letters, .val p_posts, .unk, .unk, .unk, .unk])) (j0 := ()) (im_seq (em_call k_threes rfl (by rfl) (am_cons (em_var 1 rfl rfl rfl) am_nil))) .nil (.same (.same (.unk (.unk (.unk (.unk .nil)))))) rfl (tg_tup 3 (tgs_cons (tg_name 2 rfl rfl) (tgs_cons (tg_name 3 rfl rfl) (tgs_cons (tg_name 4 rfl rfl) (tgs_nil)))) rfl (tgc_len (tgc_len (tgc_len (tgn_len))))) (fun v2_t v1_j => ?_) (fun v1_j => ?_) rfl
  · skip
    refine (un3_cs v2_t).elim (fun h => ?_) (fun hz => .inr (hz _ _))
    obtain ⟨v3_a, v4_b, v5_c, h⟩ := h
    rw [un3_at h, tgTup_at h]
    refine .inl ⟨_, rfl, ?_⟩
    refine bm_lit [.val p_letters, .val p_posts, .val v3_a, .val v4_b, .val v5_c, .unk] rfl ?_
    refine bm_asg 5 (gm_set 5 rfl rfl (em_call k_last_breach rfl (by rfl) (am_cons (em_var 0 rfl rfl rfl) (am_cons (em_var 2 rfl rfl rfl) (am_cons (em_var 3 rfl rfl rfl) (am_cons (em_var 4 rfl rfl rfl) am_nil)))))) .nil fun v6_found => ?_
    refine bm_lit [.val p_letters, .val p_posts, .val v3_a, .val v4_b, .val v5_c, .val v6_found] rfl ?_
    refine bm_ifl (tm_cmp ok_isnot rm_isnot (em_var 5 rfl rfl rfl) em_non (nomark _)) .nil ?_ ?_ ?_
    · skip
      refine bm_lit [.val p_letters, .val p_posts, .val v3_a, .val v4_b, .val v5_c, .val v6_found] rfl ?_
      exact bm_ret (he := em_var 5 rfl rfl rfl) .nil
    · repeat (first | exact noNx_retO | exact noNx_ret | exact noNx_exn | exact noNx_stk | exact noNx_exnF | exact noNx_exnF2 | refine noNx_bindC (fun _ => ?_) | refine noNx_bind (fun _ => ?_) | refine noNx_ite ?_ ?_ | (dsimp only))
    exact bm_nil (s := ()) (.same (.same (.unk (.unk (.unk (.unk .nil))))))
  refine bm_lit [.val p_letters, .val p_posts, .unk, .unk, .unk, .unk] rfl ?_
  exact bm_ret (he := em_non) .nil
abbrev s_Table___init : Stmt := clsS (topS 29) 1
theorem sc_Table___init : FnScope ["self", "letters", "posts", "found"] ["self", "letters"] (defScope s_Table___init) := ⟨rfl, rfl, rfl, by decide +kernel, rfl, by decide +kernel, by decide +kernel⟩
theorem ok_Table___init {G : GG} {f : Addr} {fd : FuncData} (Fn : Fun G.K "__init__" "Table.__init__" s_Table___init f fd) (B : Bi G) (k_breach : Kn G 5 "breach" m_breach) (x_BadInput : ExcK G "BadInput" 1) (tn_str : TyN G "str" [("NoneType", false), ("bool", false), ("int", false), ("str", true), ("list", false), ("tuple", false)] [(1, false)]) (kd_SIZES : KdI G "SIZES" [(1, 3), (4, 4), (10, 5), (20, 6), (35, 7), (56, 8)]) (xf_Quarrel : ExF G 5 "Quarrel" 3 "posts") (fl_1_letters : Fld G 1 "letters") (fl_1_posts : Fld G 1 "posts") : FnOk G.P G.w G.K G.mg G.base (L2N.CX G.P G.w) 6 f fd ["self", "letters"] (spI G 1 m_Table___init) := by
  refine init_ok [true, true, true, true] _ Fn sc_Table___init (by decide +kernel) rfl (fun ds h => congrArg (· + 1) (arF1_len ds h)) (fun x cdv A outer s H E hr ds hl => ?_)
  obtain ⟨p_letters, rfl⟩ := len1 (Nat.succ.inj hl)
  refine ⟨c_Table___init p_letters, rfl, ?_⟩
  unfold c_Table___init
  refine bm_lit [.own (.slf x 1 []), .val p_letters, .unk, .unk] rfl ?_
  refine bm_ifl (tm_w (wm_or (tm_not (tm_val (em_isi tn_str (by rfl) B.f_isinstance (by rfl) (em_var 1 rfl rfl rfl)) (fun _ _ _ => rfl))) (wm_or (tm_kdC ok_kdn kd_SIZES (by rfl) (em_len (by rfl) B.f_len (am_cons (em_var 1 rfl rfl rfl) am_nil)) (by with_unfolding_all rfl)) (wm_or1 (tm_cmp ok_ne rm_ne (em_stripC (em_var 1 rfl rfl rfl) em_str) em_str (nomark _)))))) .nil ?_ ?_ ?_
  · skip
    refine bm_lit [.own (.slf x 1 []), .val p_letters, .unk, .unk] rfl ?_
    exact bm_raise x_BadInput rfl (by rfl) .nil
  · repeat (first | exact noNx_retO | exact noNx_ret | exact noNx_exn | exact noNx_stk | exact noNx_exnF | exact noNx_exnF2 | refine noNx_bindC (fun _ => ?_) | refine noNx_bind (fun _ => ?_) | refine noNx_ite ?_ ?_ | (dsimp only))
  refine bm_lit [.own (.slf x 1 []), .val p_letters, .unk, .unk] rfl ?_
  refine bm_asg 2 (gm_set 2 rfl rfl (em_kdIx kd_SIZES (by rfl) (em_len (by rfl) B.f_len (am_cons (em_var 1 rfl rfl rfl) am_nil)) (fun _ _ => rfl))) .nil fun v1_posts => ?_
  refine bm_lit [.own (.slf x 1 []), .val p_letters, .val v1_posts, .unk] rfl ?_
  refine bm_asg 3 (gm_set 3 rfl rfl (em_call k_breach rfl (by rfl) (am_cons (em_var 1 rfl rfl rfl) (am_cons (em_var 2 rfl rfl rfl) am_nil)))) .nil fun v2_found => ?_
  refine bm_lit [.own (.slf x 1 []), .val p_letters, .val v1_posts, .val v2_found] rfl ?_
  refine bm_ifl (tm_cmp ok_isnot rm_isnot (em_var 3 rfl rfl rfl) em_non (nomark _)) .nil ?_ ?_ ?_
  · skip
    refine bm_lit [.own (.slf x 1 []), .val p_letters, .val v1_posts, .val v2_found] rfl ?_
    exact bm_raiseF xf_Quarrel rfl (by rfl) (am_cons (em_var 3 rfl rfl rfl) am_nil) .nil
  · repeat (first | exact noNx_retO | exact noNx_ret | exact noNx_exn | exact noNx_stk | exact noNx_exnF | exact noNx_exnF2 | refine noNx_bindC (fun _ => ?_) | refine noNx_bind (fun _ => ?_) | refine noNx_ite ?_ ?_ | (dsimp only))
  refine bm_lit [.own (.slf x 1 []), .val p_letters, .val v1_posts, .val v2_found] rfl ?_
  refine bm_fset 0 fl_1_letters rfl rfl rfl (em_var 1 rfl rfl rfl) .nil (fun v3_self => ?_)
  refine bm_lit [.own (.slf x 1 v3_self), .val p_letters, .val v1_posts, .val v2_found] rfl ?_
  refine bm_fset 0 fl_1_posts rfl rfl rfl (em_var 2 rfl rfl rfl) .nil (fun v4_self => ?_)
  exact bm_nil (s := v4_self) (.same (.unk (.unk (.unk .nil))))
abbrev s_Table___rshift : Stmt := clsS (topS 29) 9
theorem sc_Table___rshift : FnScope ["self", "other", "a", "b", "c", "observer"] ["self", "other"] (defScope s_Table___rshift) := ⟨rfl, rfl, rfl, by decide +kernel, rfl, by decide +kernel, by decide +kernel⟩
theorem ok_Table___rshift {G : GG} {f : Addr} {fd : FuncData} (Fn : Fun G.K "__rshift__" "Table.__rshift__" s_Table___rshift f fd) (k_blocker : Kn G 7 "blocker" m_blocker) (k_check_passing : Kn G 7 "check_passing" m_check_passing) (k_with_reversed : Kn G 7 "with_reversed" m_with_reversed) (fl_1_posts : Fld G 1 "posts") (fl_1_letters : Fld G 1 "letters") (xf_Blocked : ExF G 7 "Blocked" 4 "observer") (mk_Table : MkK G 7 1 "Table" m_Table___init) : FnOk G.P G.w G.K G.mg G.base (L2N.CX G.P G.w) 8 f fd ["self", "other"] (spM G m_Table___rshift) := by
  refine fn_ok [true, true, true, true, true, true] _ Fn sc_Table___rshift (by decide +kernel) rfl ar2_len (fun cdv A outer s H E hr ds hl => ?_)
  obtain ⟨p_self, p_other, rfl⟩ := len2 hl
  refine ⟨c_Table___rshift p_self p_other, rfl, ?_⟩
  unfold c_Table___rshift
  refine bm_lit [.val p_self, .val p_other, .unk, .unk, .unk, .unk] rfl ?_
  refine bm_expr (em_call k_check_passing rfl (by rfl) (am_cons (em_fld fl_1_posts (em_var 0 rfl rfl rfl)) (am_cons (em_var 1 rfl rfl rfl) am_nil))) .nil ?_
  refine bm_lit [.val p_self, .val p_other, .unk, .unk, .unk, .unk] rfl ?_
  refine bm_asgT (em_var 1 rfl rfl rfl) (tg_tup 3 (tgs_cons (tg_name 2 rfl rfl) (tgs_cons (tg_name 3 rfl rfl) (tgs_cons (tg_name 4 rfl rfl) (tgs_nil)))) rfl (tgc_len (tgc_len (tgc_len (tgn_len))))) .nil (fun v1_t => ?_)
  refine (un3_cs v1_t).elim (fun h => ?_) (fun hz => .inr (hz _ _))
  obtain ⟨v2_a, v3_b, v4_c, h⟩ := h
  rw [un3_at h, tgTup_at h]
  refine .inl ⟨_, rfl, ?_⟩
  refine bm_lit [.val p_self, .val p_other, .val v2_a, .val v3_b, .val v4_c, .unk] rfl ?_
  refine bm_asg 5 (gm_set 5 rfl rfl (em_call k_blocker rfl (by rfl) (am_cons (em_fld fl_1_letters (em_var 0 rfl rfl rfl)) (am_cons (em_fld fl_1_posts (em_var 0 rfl rfl rfl)) (am_cons (em_var 2 rfl rfl rfl) (am_cons (em_var 3 rfl rfl rfl) (am_cons (em_var 4 rfl rfl rfl) am_nil))))))) .nil fun v5_observer => ?_
  refine bm_lit [.val p_self, .val p_other, .val v2_a, .val v3_b, .val v4_c, .val v5_observer] rfl ?_
  refine bm_ifl (tm_cmp ok_isnot rm_isnot (em_var 5 rfl rfl rfl) em_non (nomark _)) .nil ?_ ?_ ?_
  · skip
    refine bm_lit [.val p_self, .val p_other, .val v2_a, .val v3_b, .val v4_c, .val v5_observer] rfl ?_
    exact bm_raiseF xf_Blocked rfl (by rfl) (am_cons (em_var 5 rfl rfl rfl) am_nil) .nil
  · repeat (first | exact noNx_retO | exact noNx_ret | exact noNx_exn | exact noNx_stk | exact noNx_exnF | exact noNx_exnF2 | refine noNx_bindC (fun _ => ?_) | refine noNx_bind (fun _ => ?_) | refine noNx_ite ?_ ?_ | (dsimp only))
  refine bm_lit [.val p_self, .val p_other, .val v2_a, .val v3_b, .val v4_c, .val v5_observer] rfl ?_
  exact bm_ret (he := em_make mk_Table rfl (by rfl) (am_cons (em_call k_with_reversed rfl (by rfl) (am_cons (em_fld fl_1_letters (em_var 0 rfl rfl rfl)) (am_cons (em_var 2 rfl rfl rfl) (am_cons (em_var 3 rfl rfl rfl) (am_cons (em_var 4 rfl rfl rfl) am_nil))))) am_nil)) .nil
abbrev s_walk : Stmt := topS 31
theorem sc_walk : GScope ["table", "row", "passing"] ["table", "row"] (defScope s_walk) := ⟨rfl, rfl, rfl, by decide +kernel, rfl, by decide +kernel, by decide +kernel⟩
theorem ok_walk {G : GG} {f : Addr} {fd : FuncData} (Fn : Fun G.K "walk" "walk" s_walk f fd) (k_check_passing : Kn G 9 "check_passing" m_check_passing) (fl_1_posts : Fld G 1 "posts") (du_1_rshift : DunK G 9 1 "__rshift__" m_Table___rshift) (sh_1 : ShrK G 1) : GFnOk G 10 f fd ["table", "row"] m_walk := by
  refine gfn_ok [true, true, true] _ Fn sc_walk (by decide +kernel) rfl (by decide +kernel) arG2_len (fun cdv L outer it g mod bsz fl itL ds hl => ?_)
  obtain ⟨p_table, p_row, rfl⟩ := len2 hl
  refine ⟨g_walk p_table p_row, rfl, ?_⟩
  unfold g_walk
  refine gb_plain (pre := [_]) (fx := fun _ : Unit => []) (fj1 := (fun (v5_j : Unit) => [.val p_table, .val p_row, .unk])) (fun sg => ?_) (fun v5_j => ?_)
  · skip
    refine bm_lit [.val p_table, .val p_row, .unk] rfl ?_
    refine bm_for (T := Unit) (fj := (fun (v2_j : Unit) => [.val p_table, .val p_row, .unk])) (j0 := ()) (im_seq (em_var 1 rfl rfl rfl)) .nil (.same (.same (.unk .nil))) rfl (tg_name 2 rfl rfl) (fun v3_passing v2_j => ?_) (fun v2_j => ?_) rfl
    · skip
      refine .inl ⟨_, rfl, ?_⟩
      refine bm_lit [.val p_table, .val p_row, .val v3_passing] rfl ?_
      refine bm_expr (em_call k_check_passing rfl (by rfl) (am_cons (em_fld fl_1_posts (em_var 0 rfl rfl rfl)) (am_cons (em_var 2 rfl rfl rfl) am_nil))) .nil ?_
      exact bm_nil (s := ()) (.same (.same (.unk .nil)))
    exact bm_nil (s := ()) (.same (.same (.unk .nil)))
  refine gb_yield (fun sg => em_var 0 rfl rfl rfl) (valG_of (by rfl)) (fun v7_y => ?_) rfl rfl
  refine gb_for (fj1 := (fun (v9_j : D) => [.val v9_j, .val p_row, .unk])) (j0 := p_table) (fun sg => im_seq (em_var 1 rfl rfl rfl)) (fun sg => tg_name 2 rfl rfl) (.same (.same (.unk .nil))) (fun v9_j => valG_of (by rfl)) (fun v10_passing v9_j => ?_) (fun v9_j => ?_) (fun _ => rfl)
  · skip
    refine .inl ⟨_, rfl, ?_⟩
    refine gb_plain (pre := [_]) (fx := fun _ : Unit => []) (fj1 := (fun (v13_j : D) => [.val v13_j, .val p_row, .val v10_passing])) (fun sg => ?_) (fun v13_j => ?_)
    · skip
      refine bm_lit [.val v9_j, .val p_row, .val v10_passing] rfl ?_
      refine bm_asg 0 (gm_set 0 rfl rfl (em_shrO du_1_rshift sh_1 rfl (em_var 0 rfl rfl rfl) (em_var 2 rfl rfl rfl))) .nil fun v12_table => ?_
      exact bm_nil (s := v12_table) (.same (.same (.same .nil)))
    refine gb_yield (fun sg => em_var 0 rfl rfl rfl) (valG_of (by rfl)) (fun v15_y => ?_) rfl rfl
    exact gb_nil v13_j (.same (.same (.unk .nil)))
  exact gb_nil () .nil
abbrev s_l_walked_fc7 : Stmt := topS 45
theorem sc_l_walked_fc7 : FnScope ["_law_table", "_law_row", "_law_got", "_law_step"] ["_law_table", "_law_row"] (defScope s_l_walked_fc7) := ⟨rfl, rfl, rfl, by decide +kernel, rfl, by decide +kernel, by decide +kernel⟩
theorem ok_l_walked_fc7 {G : GG} {f : Addr} {fd : FuncData} (Fn : Fun G.K "_law_walked" "_law_walked" s_l_walked_fc7 f fd) (gk_walk : GKn G 10 "walk" m_walk) (XO : XcOk G 6) (fl_1_letters : Fld G 1 "letters") (xn_Blocked : XcN G "Blocked" [false, false, false, false, true, false]) : FnOk G.P G.w G.K G.mg G.base (L2N.CX G.P G.w) 14 f fd ["_law_table", "_law_row"] (spM G m_l_walked_fc7) := by
  refine fn_ok [true, true, true, true] _ Fn sc_l_walked_fc7 (by decide +kernel) rfl ar2_len (fun cdv A outer s H E hr ds hl => ?_)
  obtain ⟨p_table, p_row, rfl⟩ := len2 hl
  refine ⟨c_l_walked_fc7 p_table p_row, rfl, ?_⟩
  unfold c_l_walked_fc7
  refine bm_lit [.val p_table, .val p_row, .unk, .unk] rfl ?_
  refine bm_asgO 2 (gf_set 2 rfl rfl (fe_lst (am_nil))) .nil fun v1_got => ?_
  refine bm_lit [.val p_table, .val p_row, .own v1_got, .unk] rfl ?_
  refine bm_tryN (fy := (fun (v2_y : D) => [.val p_table, .val p_row, .own v2_y, .unk])) (fj := (fun (v3_j : D) => [.val p_table, .val p_row, .own v3_j, .unk])) xn_Blocked (by rfl) rfl (fun W => ?_) (fun a dd e v2_y hdd htab => ?_) (fun v3_j => ?_)
  · skip
    refine bm_lit [.val p_table, .val p_row, .own v1_got, .unk] rfl ?_
    refine bm_forW (f := fun v5_step (v4_j : D) => M.bindC (appM v4_j (.ok v5_step)) v4_j fun v6_got => .nx v6_got) (fj := (fun (v4_j : D) => [.val p_table, .val p_row, .own v4_j, .unk])) (j0 := v1_got) (xj := fun (v4_j : D) => v4_j) (eg_call gk_walk (show (10 : Nat) ≤ 13 by decide) rfl (by rfl) (am_cons (em_var 0 rfl rfl rfl) (am_cons (em_var 1 rfl rfl rfl) am_nil))) XO (show (11 : Nat) ≤ 13 by decide) rfl (.same (.same (.same (.unk .nil)))) (tg_name 3 rfl rfl) (fun _ => (.same (.same (.same (.unk .nil))))) (fun v5_step v4_j => ?_) (fun v4_j => ?_)
    · skip
      refine .inl ⟨_, rfl, bm_nox ?_⟩
      refine bm_lit [.val p_table, .val p_row, .own v4_j, .val v5_step] rfl ?_
      refine bm_app 2 rfl (em_var 3 rfl rfl rfl) (.same (.same (.same (.unk .nil)))) (fun v6_got => ?_) (fun t q Y hY => pe_bm PySem.F.plainAttrs_list PySem.F.slot_list_append PySem.F.type_list_append mt_append (pvar 2 rfl rfl Y hY) (pa_cons (q Y hY) pa_nil))
      exact bm_nil (s := v6_got) (.same (.same (.same (.unk .nil))))
    exact bm_nil (s := v4_j) (.same (.same (.same (.unk .nil))))
  · skip
    refine bm_lit [.val p_table, .val p_row, .own v2_y, .unk] rfl ?_
    refine bm_give 2 rfl ?_
    exact bm_ret (he := em_lcH (blkF_of ["_law_table", "_law_row", "_law_got", "_law_step"] (defScope s_l_walked_fc7).names rfl rfl (by decide +kernel) : BlkF _ _ [("_law_step", 3)] [false, false, false, true] [false, false, false, true] _) (em_var 2 rfl rfl rfl) (tg_name 3 rfl rfl) (fun v9_step => .inl (⟨_, _, _, rfl, ifm_nil, em_fld fl_1_letters (em_var 3 rfl rfl rfl), rfl⟩))) .nil
  refine bm_lit [.val p_table, .val p_row, .own v3_j, .unk] rfl ?_
  refine bm_give 2 rfl ?_
  exact bm_ret (he := em_lc (blkF_of ["_law_table", "_law_row", "_law_got", "_law_step"] (defScope s_l_walked_fc7).names rfl rfl (by decide +kernel) : BlkF _ _ [("_law_step", 3)] [false, false, false, true] [false, false, false, true] _) rfl (im_seq (em_var 2 rfl rfl rfl)) (tg_name 3 rfl rfl) (fun v10_step => .inl (⟨_, _, _, rfl, ifm_nil, em_fld fl_1_letters (em_var 3 rfl rfl rfl), rfl⟩))) .nil
abbrev s_all_letters : Stmt := topS 26
theorem sc_all_letters : FnScope ["posts", "rows", "a", "b", "c", "longer", "row", "letter"] ["posts"] (defScope s_all_letters) := ⟨rfl, rfl, rfl, by decide +kernel, rfl, by decide +kernel, by decide +kernel⟩
theorem ok_all_letters {G : GG} {f : Addr} {fd : FuncData} (Fn : Fun G.K "all_letters" "all_letters" s_all_letters f fd) (k_last_breach : Kn G 4 "last_breach" m_last_breach) (k_threes : Kn G 4 "threes" m_threes) : FnOk G.P G.w G.K G.mg G.base (L2N.CX G.P G.w) 5 f fd ["posts"] (spM G m_all_letters) := by
  refine fn_ok [true, true, true, true, true, true, false, false] _ Fn sc_all_letters (by decide +kernel) rfl ar1_len (fun cdv A outer s H E hr ds hl => ?_)
  obtain ⟨p_posts, rfl⟩ := len1 hl
  refine ⟨c_all_letters p_posts, rfl, ?_⟩
  unfold c_all_letters
  refine bm_lit [.val p_posts, .unk, .unk, .unk, .unk, .unk, .unk, .unk] rfl ?_
  refine bm_asg 1 (gm_set 1 rfl rfl (em_lst (am_cons em_str am_nil))) .nil fun v1_rows => ?_
  refine bm_lit [.val p_posts, .val v1_rows, .unk, .unk, .unk, .unk, .unk, .unk] rfl ?_
  refine bm_for (T := Unit) (fj := (fun (v2_j : D) => [.val p_posts, .val v2_j, .unk, .unk, .unk, .unk, .unk, .unk])) (j0 := v1_rows) (im_seq (em_call k_threes rfl (by rfl) (am_cons (em_var 0 rfl rfl rfl) am_nil))) .nil (.same (.same (.unk (.unk (.unk (.unk (.unk (.unk .nil)))))))) rfl (tg_tup 3 (tgs_cons (tg_name 2 rfl rfl) (tgs_cons (tg_name 3 rfl rfl) (tgs_cons (tg_name 4 rfl rfl) (tgs_nil)))) rfl (tgc_len (tgc_len (tgc_len (tgn_len))))) (fun v3_t v2_j => ?_) (fun v2_j => ?_) rfl
  · skip
    refine (un3_cs v3_t).elim (fun h => ?_) (fun hz => .inr (hz _ _))
    obtain ⟨v4_a, v5_b, v6_c, h⟩ := h
    rw [un3_at h, tgTup_at h]
    refine .inl ⟨_, rfl, ?_⟩
    refine bm_lit [.val p_posts, .val v2_j, .val v4_a, .val v5_b, .val v6_c, .unk, .unk, .unk] rfl ?_
    refine bm_asg 5 (gm_lc2 (L1 := [false, false, false, false, false, false, false, true]) (vs1 := [7]) 5 rfl (blkF_of ["posts", "rows", "a", "b", "c", "longer", "row", "letter"] (defScope s_all_letters).names rfl rfl (by decide +kernel) : BlkF _ _ [("row", 6), ("letter", 7)] [false, false, false, false, false, false, true, true] [false, false, false, false, false, false, true, true] _) (by decide +kernel) (by decide +kernel) (by decide +kernel) rfl (im_seq (em_var 1 rfl rfl rfl)) (tg_name 6 rfl rfl) (tg_name 7 rfl rfl) (fun v8_row => .inl (⟨[.val p_posts, .val v2_j, .val v4_a, .val v5_b, .val v6_c, .unk, .val v8_row, .unk], _, _, rfl, ifm_nil, ⟨_, _, im_seq em_str, fun v9_letter => .inl (⟨[.val p_posts, .val v2_j, .val v4_a, .val v5_b, .val v6_c, .unk, .val v8_row, .val v9_letter], _, _, rfl, ifm_nil, ⟨_, em_add (em_var 6 rfl rfl rfl) (em_var 7 rfl rfl rfl), rfl⟩, rfl⟩), rfl⟩, rfl⟩)) rfl rfl rfl (by rfl)) .nil fun v7_longer => ?_
    refine bm_lit [.val p_posts, .val v2_j, .val v4_a, .val v5_b, .val v6_c, .val v7_longer, .unk, .unk] rfl ?_
    refine bm_asg 1 (gm_lc 1 rfl  (blkF_of ["posts", "rows", "a", "b", "c", "longer", "row", "letter"] (defScope s_all_letters).names rfl rfl (by decide +kernel) : BlkF _ _ [("row", 6)] [false, false, true, true, true, false, true, false] [false, false, false, false, false, false, true, false] _) rfl (im_seq (em_var 5 rfl rfl rfl)) (tg_name 6 rfl rfl) (fun v11_row => .inl (⟨_, _, _, rfl, ifm_one (tm_cmp ok_is rm_is (em_call k_last_breach rfl (by rfl) (am_cons (em_var 6 rfl rfl rfl) (am_cons (em_var 2 rfl rfl rfl) (am_cons (em_var 3 rfl rfl rfl) (am_cons (em_var 4 rfl rfl rfl) am_nil))))) em_non (nomark _)), em_var 6 rfl rfl rfl, rfl⟩)) rfl rfl rfl (by rfl)) .nil fun v10_rows => ?_
    exact bm_nil (s := v10_rows) (.same (.same (.unk (.unk (.unk (.unk (.unk (.unk .nil))))))))
  refine bm_lit [.val p_posts, .val v2_j, .unk, .unk, .unk, .unk, .unk, .unk] rfl ?_
  exact bm_ret (he := em_var 1 rfl rfl rfl) .nil
abbrev s_end_of : Stmt := topS 32
theorem sc_end_of : FnScope ["letters", "posts", "row", "a", "b", "c"] ["letters", "posts", "row"] (defScope s_end_of) := ⟨rfl, rfl, rfl, by decide +kernel, rfl, by decide +kernel, by decide +kernel⟩
theorem ok_end_of {G : GG} {f : Addr} {fd : FuncData} (Fn : Fun G.K "end_of" "end_of" s_end_of f fd) (k_blocker : Kn G 3 "blocker" m_blocker) (k_with_reversed : Kn G 3 "with_reversed" m_with_reversed) : FnOk G.P G.w G.K G.mg G.base (L2N.CX G.P G.w) 4 f fd ["letters", "posts", "row"] (spM G m_end_of) := by
  refine fn_ok [true, true, true, true, true, true] _ Fn sc_end_of (by decide +kernel) rfl ar3_len (fun cdv A outer s H E hr ds hl => ?_)
  obtain ⟨p_letters, p_posts, p_row, rfl⟩ := len3 hl
  refine ⟨c_end_of p_letters p_posts p_row, rfl, ?_⟩
  unfold c_end_of
  refine bm_lit [.val p_letters, .val p_posts, .val p_row, .unk, .unk, .unk] rfl ?_
  refine bm_for (T := Unit) (fj := (fun (v1_j : D) => [.val v1_j, .val p_posts, .val p_row, .unk, .unk, .unk])) (j0 := p_letters) (im_seq (em_var 2 rfl rfl rfl)) .nil (.same (.same (.same (.unk (.unk (.unk .nil)))))) rfl (tg_tup 3 (tgs_cons (tg_name 3 rfl rfl) (tgs_cons (tg_name 4 rfl rfl) (tgs_cons (tg_name 5 rfl rfl) (tgs_nil)))) rfl (tgc_len (tgc_len (tgc_len (tgn_len))))) (fun v2_t v1_j => ?_) (fun v1_j => ?_) rfl
  · skip
    refine (un3_cs v2_t).elim (fun h => ?_) (fun hz => .inr (hz _ _))
    obtain ⟨v3_a, v4_b, v5_c, h⟩ := h
    rw [un3_at h, tgTup_at h]
    refine .inl ⟨_, rfl, ?_⟩
    refine bm_lit [.val v1_j, .val p_posts, .val p_row, .val v3_a, .val v4_b, .val v5_c] rfl ?_
    refine bm_ifl (tm_cmp ok_isnot rm_isnot (em_call k_blocker rfl (by rfl) (am_cons (em_var 0 rfl rfl rfl) (am_cons (em_var 1 rfl rfl rfl) (am_cons (em_var 3 rfl rfl rfl) (am_cons (em_var 4 rfl rfl rfl) (am_cons (em_var 5 rfl rfl rfl) am_nil)))))) em_non (nomark _)) .nil ?_ ?_ ?_
    · skip
      refine bm_lit [.val v1_j, .val p_posts, .val p_row, .val v3_a, .val v4_b, .val v5_c] rfl ?_
      exact bm_ret (he := em_non) .nil
    · repeat (first | exact noNx_retO | exact noNx_ret | exact noNx_exn | exact noNx_stk | exact noNx_exnF | exact noNx_exnF2 | refine noNx_bindC (fun _ => ?_) | refine noNx_bind (fun _ => ?_) | refine noNx_ite ?_ ?_ | (dsimp only))
    refine bm_lit [.val v1_j, .val p_posts, .val p_row, .val v3_a, .val v4_b, .val v5_c] rfl ?_
    refine bm_asg 0 (gm_set 0 rfl rfl (em_call k_with_reversed rfl (by rfl) (am_cons (em_var 0 rfl rfl rfl) (am_cons (em_var 3 rfl rfl rfl) (am_cons (em_var 4 rfl rfl rfl) (am_cons (em_var 5 rfl rfl rfl) am_nil)))))) .nil fun v6_letters => ?_
    exact bm_nil (s := v6_letters) (.same (.same (.same (.unk (.unk (.unk .nil))))))
  refine bm_lit [.val v1_j, .val p_posts, .val p_row, .unk, .unk, .unk] rfl ?_
  exact bm_ret (he := em_var 0 rfl rfl rfl) .nil
abbrev s_parted : Stmt := topS 33
theorem sc_parted : FnScope ["posts", "first", "second", "passing", "letters"] ["posts", "first", "second"] (defScope s_parted) := ⟨rfl, rfl, rfl, by decide +kernel, rfl, by decide +kernel, by decide +kernel⟩
theorem ok_parted {G : GG} {f : Addr} {fd : FuncData} (Fn : Fun G.K "parted" "parted" s_parted f fd) (k_all_letters : Kn G 7 "all_letters" m_all_letters) (k_check_passing : Kn G 7 "check_passing" m_check_passing) (k_end_of : Kn G 7 "end_of" m_end_of) (x_BadInput : ExcK G "BadInput" 1) (mk_Table : MkK G 7 1 "Table" m_Table___init) : FnOk G.P G.w G.K G.mg G.base (L2N.CX G.P G.w) 8 f fd ["posts", "first", "second"] (spM G m_parted) := by
  refine fn_ok [true, true, true, true, true] _ Fn sc_parted (by decide +kernel) rfl ar3_len (fun cdv A outer s H E hr ds hl => ?_)
  obtain ⟨p_posts, p_first, p_second, rfl⟩ := len3 hl
  refine ⟨c_parted p_posts p_first p_second, rfl, ?_⟩
  unfold c_parted
  refine bm_lit [.val p_posts, .val p_first, .val p_second, .unk, .unk] rfl ?_
  refine bm_ifl (tm_not (tm_chain ok_le rm_le ok_le rm_le em_int (em_var 0 rfl rfl rfl) em_int)) .nil ?_ ?_ ?_
  · skip
    refine bm_lit [.val p_posts, .val p_first, .val p_second, .unk, .unk] rfl ?_
    exact bm_raise x_BadInput rfl (by rfl) .nil
  · repeat (first | exact noNx_retO | exact noNx_ret | exact noNx_exn | exact noNx_stk | exact noNx_exnF | exact noNx_exnF2 | refine noNx_bindC (fun _ => ?_) | refine noNx_bind (fun _ => ?_) | refine noNx_ite ?_ ?_ | (dsimp only))
  refine bm_lit [.val p_posts, .val p_first, .val p_second, .unk, .unk] rfl ?_
  refine bm_for (T := Unit) (fj := (fun (v1_j : Unit) => [.val p_posts, .val p_first, .val p_second, .unk, .unk])) (j0 := ()) (im_seq (em_lst (am_star (em_var 1 rfl rfl rfl) (am_star (em_var 2 rfl rfl rfl) am_nil)))) .nil (.same (.same (.same (.unk (.unk .nil))))) rfl (tg_name 3 rfl rfl) (fun v2_passing v1_j => ?_) (fun v1_j => ?_) rfl
  · skip
    refine .inl ⟨_, rfl, ?_⟩
    refine bm_lit [.val p_posts, .val p_first, .val p_second, .val v2_passing, .unk] rfl ?_
    refine bm_expr (em_call k_check_passing rfl (by rfl) (am_cons (em_var 0 rfl rfl rfl) (am_cons (em_var 3 rfl rfl rfl) am_nil))) .nil ?_
    exact bm_nil (s := ()) (.same (.same (.same (.unk (.unk .nil)))))
  refine bm_lit [.val p_posts, .val p_first, .val p_second, .unk, .unk] rfl ?_
  refine bm_for (T := Unit) (fj := (fun (v3_j : Unit) => [.val p_posts, .val p_first, .val p_second, .unk, .unk])) (j0 := ()) (im_seq (em_call k_all_letters rfl (by rfl) (am_cons (em_var 0 rfl rfl rfl) am_nil))) .nil (.same (.same (.same (.unk (.unk .nil))))) rfl (tg_name 4 rfl rfl) (fun v4_letters v3_j => ?_) (fun v3_j => ?_) rfl
  · skip
    refine .inl ⟨_, rfl, ?_⟩
    refine bm_lit [.val p_posts, .val p_first, .val p_second, .unk, .val v4_letters] rfl ?_
    refine bm_ifl (tm_cmp ok_ne rm_ne (em_call k_end_of rfl (by rfl) (am_cons (em_var 4 rfl rfl rfl) (am_cons (em_var 0 rfl rfl rfl) (am_cons (em_var 1 rfl rfl rfl) am_nil)))) (em_call k_end_of rfl (by rfl) (am_cons (em_var 4 rfl rfl rfl) (am_cons (em_var 0 rfl rfl rfl) (am_cons (em_var 2 rfl rfl rfl) am_nil)))) (nomark _)) .nil ?_ ?_ ?_
    · skip
      refine bm_lit [.val p_posts, .val p_first, .val p_second, .unk, .val v4_letters] rfl ?_
      exact bm_ret (he := em_make mk_Table rfl (by rfl) (am_cons (em_var 4 rfl rfl rfl) am_nil)) .nil
    · repeat (first | exact noNx_retO | exact noNx_ret | exact noNx_exn | exact noNx_stk | exact noNx_exnF | exact noNx_exnF2 | refine noNx_bindC (fun _ => ?_) | refine noNx_bind (fun _ => ?_) | refine noNx_ite ?_ ?_ | (dsimp only))
    exact bm_nil (s := ()) (.same (.same (.same (.unk (.unk .nil)))))
  refine bm_lit [.val p_posts, .val p_first, .val p_second, .unk, .unk] rfl ?_
  exact bm_ret (he := em_non) .nil
abbrev s_law_k28 : Stmt := topS 48
theorem sc_law_k28 : FnScope ["_law_script", "_law_pool_here", "_law_posts", "_law_turns_here", "_law_table", "_law_pair", "_law_one", "_law_two", "_law_can", "_law_ahead", "_law_behind"] ["_law_script"] (defScope s_law_k28) := ⟨rfl, rfl, rfl, by decide +kernel, rfl, by decide +kernel, by decide +kernel⟩
theorem ok_law_k28 {G : GG} {f : Addr} {fd : FuncData} (Fn : Fun G.K "law" "law" s_law_k28 f fd) (B : Bi G) (k_l_can_pass : Kn G 14 "_law_can_pass" m_l_can_pass) (k_l_draw : Kn G 14 "_law_draw" m_l_draw) (k_l_far : Kn G 14 "_law_far" m_l_far) (k_l_letters : Kn G 14 "_law_letters" m_l_letters) (k_l_places : Kn G 14 "_law_places" m_l_places) (k_l_pool : Kn G 14 "_law_pool" m_l_pool) (k_l_possible : Kn G 14 "_law_possible" m_l_possible) (k_l_turns : Kn G 14 "_law_turns" m_l_turns) (k_l_walked_fc7 : Kn G 14 "_law_walked" m_l_walked_fc7) (k_parted : Kn G 14 "parted" m_parted) (mk_Table : MkK G 14 1 "Table" m_Table___init) : FnOk G.P G.w G.K G.mg G.base (L2N.CX G.P G.w) 15 f fd ["_law_script"] (spM G m_law_k28) := by
  refine fn_ok [true, true, true, true, true, true, true, true, true, true, true] _ Fn sc_law_k28 (by decide +kernel) rfl ar1_len (fun cdv A outer s H E hr ds hl => ?_)
  obtain ⟨p_script, rfl⟩ := len1 hl
  refine ⟨c_law_k28 p_script, rfl, ?_⟩
  unfold c_law_k28
  refine bm_lit [.val p_script, .unk, .unk, .unk, .unk, .unk, .unk, .unk, .unk, .unk, .unk] rfl ?_
  refine bm_asg 1 (gm_set 1 rfl rfl (em_call k_l_pool rfl (by rfl) (am_cons (em_var 0 rfl rfl rfl) am_nil))) .nil fun v1_pool_here => ?_
  refine bm_lit [.val p_script, .val v1_pool_here, .unk, .unk, .unk, .unk, .unk, .unk, .unk, .unk, .unk] rfl ?_
  refine bm_asg 2 (gm_set 2 rfl rfl (em_add em_int (em_call k_l_draw rfl (by rfl) (am_cons (em_var 1 rfl rfl rfl) (am_cons em_int (am_cons em_int am_nil)))))) .nil fun v2_posts => ?_
  refine bm_lit [.val p_script, .val v1_pool_here, .val v2_posts, .unk, .unk, .unk, .unk, .unk, .unk, .unk, .unk] rfl ?_
  refine bm_asg 3 (gm_set 3 rfl rfl (em_call k_l_turns rfl (by rfl) (am_cons (em_call k_l_places rfl (by rfl) (am_cons (em_var 1 rfl rfl rfl) (am_cons em_int (am_cons (em_var 2 rfl rfl rfl) am_nil)))) am_nil))) .nil fun v3_turns_here => ?_
  refine bm_lit [.val p_script, .val v1_pool_here, .val v2_posts, .val v3_turns_here, .unk, .unk, .unk, .unk, .unk, .unk, .unk] rfl ?_
  refine bm_asg 4 (gm_set 4 rfl rfl (em_make mk_Table rfl (by rfl) (am_cons (em_call k_l_letters rfl (by rfl) (am_cons (em_var 3 rfl rfl rfl) (am_cons (em_var 2 rfl rfl rfl) am_nil))) am_nil))) .nil fun v4_table => ?_
  refine bm_lit [.val p_script, .val v1_pool_here, .val v2_posts, .val v3_turns_here, .val v4_table, .unk, .unk, .unk, .unk, .unk, .unk] rfl ?_
  refine bm_if (fj := (fun (v5_j : D) => [.val p_script, .val v1_pool_here, .val v2_posts, .val v3_turns_here, .val v4_table, .val v5_j, .unk, .unk, .unk, .unk, .unk])) (tm_cmp ok_eq rm_eq (em_call k_l_draw rfl (by rfl) (am_cons (em_var 1 rfl rfl rfl) (am_cons em_int (am_cons em_int am_nil)))) em_int (nomark _)) .nil ?_ ?_ (fun v5_j => ?_)
  · skip
    refine bm_lit [.val p_script, .val v1_pool_here, .val v2_posts, .val v3_turns_here, .val v4_table, .unk, .unk, .unk, .unk, .unk, .unk] rfl ?_
    refine bm_asg 5 (gm_set 5 rfl rfl (em_call k_l_possible rfl (by rfl) (am_cons (em_var 1 rfl rfl rfl) (am_cons (em_var 2 rfl rfl rfl) (am_cons (em_var 3 rfl rfl rfl) am_nil))))) .nil fun v6_pair => ?_
    exact bm_nil (s := v6_pair) (.same (.same (.same (.same (.same (.same (.unk (.unk (.unk (.unk (.unk .nil)))))))))))
  · skip
    refine bm_lit [.val p_script, .val v1_pool_here, .val v2_posts, .val v3_turns_here, .val v4_table, .unk, .unk, .unk, .unk, .unk, .unk] rfl ?_
    refine bm_asg 5 (gm_set 5 rfl rfl (em_call k_l_far rfl (by rfl) (am_cons (em_var 1 rfl rfl rfl) (am_cons (em_var 2 rfl rfl rfl) am_nil)))) .nil fun v7_pair => ?_
    exact bm_nil (s := v7_pair) (.same (.same (.same (.same (.same (.same (.unk (.unk (.unk (.unk (.unk .nil)))))))))))
  refine bm_lit [.val p_script, .val v1_pool_here, .val v2_posts, .val v3_turns_here, .val v4_table, .val v5_j, .unk, .unk, .unk, .unk, .unk] rfl ?_
  refine bm_asg 6 (gm_set 6 rfl rfl (em_ix (em_var 5 rfl rfl rfl) em_int (fun _ _ => rfl))) .nil fun v8_one => ?_
  refine bm_lit [.val p_script, .val v1_pool_here, .val v2_posts, .val v3_turns_here, .val v4_table, .val v5_j, .val v8_one, .unk, .unk, .unk, .unk] rfl ?_
  refine bm_asg 7 (gm_set 7 rfl rfl (em_ix (em_var 5 rfl rfl rfl) em_int (fun _ _ => rfl))) .nil fun v9_two => ?_
  refine bm_lit [.val p_script, .val v1_pool_here, .val v2_posts, .val v3_turns_here, .val v4_table, .val v5_j, .val v8_one, .val v9_two, .unk, .unk, .unk] rfl ?_
  refine bm_asg 8 (gm_set 8 rfl rfl (em_lst (am_cons (em_call k_l_can_pass rfl (by rfl) (am_cons (em_var 3 rfl rfl rfl) (am_cons (em_var 2 rfl rfl rfl) (am_cons (em_ix (em_var 6 rfl rfl rfl) em_int (fun _ _ => rfl)) (am_cons (em_ix (em_var 6 rfl rfl rfl) em_int (fun _ _ => rfl)) (am_cons (em_ix (em_var 6 rfl rfl rfl) em_int (fun _ _ => rfl)) am_nil)))))) (am_cons (em_call k_l_can_pass rfl (by rfl) (am_cons (em_var 3 rfl rfl rfl) (am_cons (em_var 2 rfl rfl rfl) (am_cons (em_ix (em_var 7 rfl rfl rfl) em_int (fun _ _ => rfl)) (am_cons (em_ix (em_var 7 rfl rfl rfl) em_int (fun _ _ => rfl)) (am_cons (em_ix (em_var 7 rfl rfl rfl) em_int (fun _ _ => rfl)) am_nil)))))) am_nil)))) .nil fun v10_can => ?_
  refine bm_lit [.val p_script, .val v1_pool_here, .val v2_posts, .val v3_turns_here, .val v4_table, .val v5_j, .val v8_one, .val v9_two, .val v10_can, .unk, .unk] rfl ?_
  refine bm_asg 9 (gm_set 9 rfl rfl (em_call k_l_walked_fc7 rfl (by rfl) (am_cons (em_var 4 rfl rfl rfl) (am_cons (em_lst (am_cons (em_var 6 rfl rfl rfl) (am_cons (em_var 7 rfl rfl rfl) am_nil))) am_nil)))) .nil fun v11_ahead => ?_
  refine bm_lit [.val p_script, .val v1_pool_here, .val v2_posts, .val v3_turns_here, .val v4_table, .val v5_j, .val v8_one, .val v9_two, .val v10_can, .val v11_ahead, .unk] rfl ?_
  refine bm_asg 10 (gm_set 10 rfl rfl (em_call k_l_walked_fc7 rfl (by rfl) (am_cons (em_var 4 rfl rfl rfl) (am_cons (em_lst (am_cons (em_var 7 rfl rfl rfl) (am_cons (em_var 6 rfl rfl rfl) am_nil))) am_nil)))) .nil fun v12_behind => ?_
  refine bm_lit [.val p_script, .val v1_pool_here, .val v2_posts, .val v3_turns_here, .val v4_table, .val v5_j, .val v8_one, .val v9_two, .val v10_can, .val v11_ahead, .val v12_behind] rfl ?_
  refine bm_ifl (tm_cmp ok_ne rm_ne (em_len (by rfl) B.f_len (am_cons (em_var 9 rfl rfl rfl) am_nil)) (em_add (em_add em_int (em_int_of (by rfl) B.f_int (am_cons (em_ix (em_var 8 rfl rfl rfl) em_int (fun _ _ => rfl)) am_nil))) (em_int_of (by rfl) B.f_int (am_cons (em_and (em_ix (em_var 8 rfl rfl rfl) em_int (fun _ _ => rfl)) (em_one (em_ix (em_var 8 rfl rfl rfl) em_int (fun _ _ => rfl)))) am_nil))) (nomark _)) .nil ?_ ?_ ?_
  · skip
    refine bm_lit [.val p_script, .val v1_pool_here, .val v2_posts, .val v3_turns_here, .val v4_table, .val v5_j, .val v8_one, .val v9_two, .val v10_can, .val v11_ahead, .val v12_behind] rfl ?_
    exact bm_ret (he := em_bl) .nil
  · repeat (first | exact noNx_retO | exact noNx_ret | exact noNx_exn | exact noNx_stk | exact noNx_exnF | exact noNx_exnF2 | refine noNx_bindC (fun _ => ?_) | refine noNx_bind (fun _ => ?_) | refine noNx_ite ?_ ?_ | (dsimp only))
  refine bm_lit [.val p_script, .val v1_pool_here, .val v2_posts, .val v3_turns_here, .val v4_table, .val v5_j, .val v8_one, .val v9_two, .val v10_can, .val v11_ahead, .val v12_behind] rfl ?_
  refine bm_ifl (tm_cmp ok_ne rm_ne (em_len (by rfl) B.f_len (am_cons (em_var 10 rfl rfl rfl) am_nil)) (em_add (em_add em_int (em_int_of (by rfl) B.f_int (am_cons (em_ix (em_var 8 rfl rfl rfl) em_int (fun _ _ => rfl)) am_nil))) (em_int_of (by rfl) B.f_int (am_cons (em_and (em_ix (em_var 8 rfl rfl rfl) em_int (fun _ _ => rfl)) (em_one (em_ix (em_var 8 rfl rfl rfl) em_int (fun _ _ => rfl)))) am_nil))) (nomark _)) .nil ?_ ?_ ?_
  · skip
    refine bm_lit [.val p_script, .val v1_pool_here, .val v2_posts, .val v3_turns_here, .val v4_table, .val v5_j, .val v8_one, .val v9_two, .val v10_can, .val v11_ahead, .val v12_behind] rfl ?_
    exact bm_ret (he := em_bl) .nil
  · repeat (first | exact noNx_retO | exact noNx_ret | exact noNx_exn | exact noNx_stk | exact noNx_exnF | exact noNx_exnF2 | refine noNx_bindC (fun _ => ?_) | refine noNx_bind (fun _ => ?_) | refine noNx_ite ?_ ?_ | (dsimp only))
  refine bm_lit [.val p_script, .val v1_pool_here, .val v2_posts, .val v3_turns_here, .val v4_table, .val v5_j, .val v8_one, .val v9_two, .val v10_can, .val v11_ahead, .val v12_behind] rfl ?_
  refine bm_ifl (tm_w (wm_and (tm_val (em_ix (em_var 8 rfl rfl rfl) em_int (fun _ _ => rfl)) (fun _ _ _ => rfl)) (wm_and (tm_val (em_ix (em_var 8 rfl rfl rfl) em_int (fun _ _ => rfl)) (fun _ _ _ => rfl)) (wm_and1 (tm_w (wm_or (tm_cmp ok_ne rm_ne (em_ix (em_var 9 rfl rfl rfl) em_int (fun _ _ => rfl)) (em_ix (em_var 10 rfl rfl rfl) em_int (fun _ _ => rfl)) (nomark _)) (wm_or (tm_cmp ok_eq rm_eq (em_ix (em_var 9 rfl rfl rfl) em_int (fun _ _ => rfl)) (em_ix (em_var 9 rfl rfl rfl) em_int (fun _ _ => rfl)) (nomark _)) (wm_or1 (tm_cmp ok_eq rm_eq (em_ix (em_var 9 rfl rfl rfl) em_int (fun _ _ => rfl)) (em_ix (em_var 10 rfl rfl rfl) em_int (fun _ _ => rfl)) (nomark _)))))))))) .nil ?_ ?_ ?_
  · skip
    refine bm_lit [.val p_script, .val v1_pool_here, .val v2_posts, .val v3_turns_here, .val v4_table, .val v5_j, .val v8_one, .val v9_two, .val v10_can, .val v11_ahead, .val v12_behind] rfl ?_
    exact bm_ret (he := em_bl) .nil
  · repeat (first | exact noNx_retO | exact noNx_ret | exact noNx_exn | exact noNx_stk | exact noNx_exnF | exact noNx_exnF2 | refine noNx_bindC (fun _ => ?_) | refine noNx_bind (fun _ => ?_) | refine noNx_ite ?_ ?_ | (dsimp only))
  refine bm_lit [.val p_script, .val v1_pool_here, .val v2_posts, .val v3_turns_here, .val v4_table, .val v5_j, .val v8_one, .val v9_two, .val v10_can, .val v11_ahead, .val v12_behind] rfl ?_
  refine bm_ifl (tm_w (wm_and (tm_val (em_ix (em_var 8 rfl rfl rfl) em_int (fun _ _ => rfl)) (fun _ _ _ => rfl)) (wm_and1 (tm_cmp ok_ne rm_ne (em_len (by rfl) B.f_len (am_cons (em_call k_l_walked_fc7 rfl (by rfl) (am_cons (em_var 4 rfl rfl rfl) (am_cons (em_lst (am_cons (em_var 6 rfl rfl rfl) (am_cons (em_var 6 rfl rfl rfl) (am_cons (em_var 7 rfl rfl rfl) am_nil)))) am_nil))) am_nil)) (em_add em_int (em_int_of (by rfl) B.f_int (am_cons (em_ix (em_var 8 rfl rfl rfl) em_int (fun _ _ => rfl)) am_nil))) (nomark _))))) .nil ?_ ?_ ?_
  · skip
    refine bm_lit [.val p_script, .val v1_pool_here, .val v2_posts, .val v3_turns_here, .val v4_table, .val v5_j, .val v8_one, .val v9_two, .val v10_can, .val v11_ahead, .val v12_behind] rfl ?_
    exact bm_ret (he := em_bl) .nil
  · repeat (first | exact noNx_retO | exact noNx_ret | exact noNx_exn | exact noNx_stk | exact noNx_exnF | exact noNx_exnF2 | refine noNx_bindC (fun _ => ?_) | refine noNx_bind (fun _ => ?_) | refine noNx_ite ?_ ?_ | (dsimp only))
  refine bm_lit [.val p_script, .val v1_pool_here, .val v2_posts, .val v3_turns_here, .val v4_table, .val v5_j, .val v8_one, .val v9_two, .val v10_can, .val v11_ahead, .val v12_behind] rfl ?_
  exact bm_ret (he := em_orv (em_cmp ok_gt rm_gt (em_var 2 rfl rfl rfl) em_int (nomark _)) (em_one (em_cmp ok_is rm_is (em_call k_parted rfl (by rfl) (am_cons em_int (am_cons (em_lst (am_cons (em_var 6 rfl rfl rfl) (am_cons (em_var 7 rfl rfl rfl) am_nil))) (am_cons (em_lst (am_cons (em_var 7 rfl rfl rfl) (am_cons (em_var 6 rfl rfl rfl) am_nil))) am_nil)))) em_non (nomark _)))) .nil
abbrev theG (l : PySem.W.OpenLaw) (w : World) (K : PySem.W.Frag) (mg : Str → Option Value) (base : Heap) (C_Table E_PostError E_BadInput E_Quarrel E_Blocked : Addr) : GG := ⟨l.prog, w, K, mg, base, fun i => match i with | 1 => C_Table | _ => 0, fun i => match i with | 0 => .ref E_PostError | 1 => .ref E_BadInput | 2 => .ref E_PostError | 3 => .ref E_Quarrel | 4 => .ref E_Blocked | 5 => .ref E_PostError | _ => .none⟩
theorem all_mk {l : PySem.W.OpenLaw} {w : World} {K : PySem.W.Frag} {h : Heap} {mg : Str → Option Value} {fa C_Table E_PostError E_BadInput E_Quarrel E_Blocked f_l_can_pass f_l_draw f_l_letters f_l_cross f_l_pool f_check_posts f_position f_threes f_l_named f_l_free f_l_ways f_l_turns f_check_passing f_turn_of f_with_reversed f_l_far f_l_places f_blocker f_breaks_five f_l_possible f_last_breach f_end_of f_breach f_all_letters f_Table___init A_SIZES fx_Quarrel cc_Quarrel cda_Quarrel N_Quarrel f_Table___rshift fx_Blocked cc_Blocked cda_Blocked N_Blocked f_parted f_walk f_l_walked_fc7 f_law_k28 : Addr} {oc_l_can_pass : Value} {od_l_can_pass : Option Addr} {an_l_can_pass : Option Addr} {sl_l_can_pass : Array (Option Value)} {kV_l_can_pass dc_l_can_pass pm_l_can_pass cd_l_can_pass ct_l_can_pass : Value} {oc_l_draw : Value} {od_l_draw : Option Addr} {an_l_draw : Option Addr} {sl_l_draw : Array (Option Value)} {kV_l_draw dc_l_draw pm_l_draw cd_l_draw ct_l_draw : Value} {oc_l_letters : Value} {od_l_letters : Option Addr} {an_l_letters : Option Addr} {sl_l_letters : Array (Option Value)} {kV_l_letters dc_l_letters pm_l_letters cd_l_letters ct_l_letters : Value} {oc_l_cross : Value} {od_l_cross : Option Addr} {an_l_cross : Option Addr} {sl_l_cross : Array (Option Value)} {kV_l_cross dc_l_cross pm_l_cross cd_l_cross ct_l_cross : Value} {oc_l_pool : Value} {od_l_pool : Option Addr} {an_l_pool : Option Addr} {sl_l_pool : Array (Option Value)} {kV_l_pool dc_l_pool pm_l_pool cd_l_pool ct_l_pool : Value} {oc_check_posts : Value} {od_check_posts : Option Addr} {an_check_posts : Option Addr} {sl_check_posts : Array (Option Value)} {kV_check_posts dc_check_posts pm_check_posts cd_check_posts ct_check_posts : Value} {oc_position : Value} {od_position : Option Addr} {an_position : Option Addr} {sl_position : Array (Option Value)} {kV_position dc_position pm_position cd_position ct_position : Value} {oc_threes : Value} {od_threes : Option Addr} {an_threes : Option Addr} {sl_threes : Array (Option Value)} {kV_threes dc_threes pm_threes cd_threes ct_threes : Value} {oc_l_named : Value} {od_l_named : Option Addr} {an_l_named : Option Addr} {sl_l_named : Array (Option Value)} {kV_l_named dc_l_named pm_l_named cd_l_named ct_l_named : Value} {oc_l_free : Value} {od_l_free : Option Addr} {an_l_free : Option Addr} {sl_l_free : Array (Option Value)} {kV_l_free dc_l_free pm_l_free cd_l_free ct_l_free : Value} {oc_l_ways : Value} {od_l_ways : Option Addr} {an_l_ways : Option Addr} {sl_l_ways : Array (Option Value)} {kV_l_ways dc_l_ways pm_l_ways cd_l_ways ct_l_ways : Value} {oc_l_turns : Value} {od_l_turns : Option Addr} {an_l_turns : Option Addr} {sl_l_turns : Array (Option Value)} {kV_l_turns dc_l_turns pm_l_turns cd_l_turns ct_l_turns : Value} {oc_check_passing : Value} {od_check_passing : Option Addr} {an_check_passing : Option Addr} {sl_check_passing : Array (Option Value)} {kV_check_passing dc_check_passing pm_check_passing cd_check_passing ct_check_passing : Value} {oc_turn_of : Value} {od_turn_of : Option Addr} {an_turn_of : Option Addr} {sl_turn_of : Array (Option Value)} {kV_turn_of dc_turn_of pm_turn_of cd_turn_of ct_turn_of : Value} {oc_with_reversed : Value} {od_with_reversed : Option Addr} {an_with_reversed : Option Addr} {sl_with_reversed : Array (Option Value)} {kV_with_reversed dc_with_reversed pm_with_reversed cd_with_reversed ct_with_reversed : Value} {oc_l_far : Value} {od_l_far : Option Addr} {an_l_far : Option Addr} {sl_l_far : Array (Option Value)} {kV_l_far dc_l_far pm_l_far cd_l_far ct_l_far : Value} {oc_l_places : Value} {od_l_places : Option Addr} {an_l_places : Option Addr} {sl_l_places : Array (Option Value)} {kV_l_places dc_l_places pm_l_places cd_l_places ct_l_places : Value} {oc_blocker : Value} {od_blocker : Option Addr} {an_blocker : Option Addr} {sl_blocker : Array (Option Value)} {kV_blocker dc_blocker pm_blocker cd_blocker ct_blocker : Value} {oc_breaks_five : Value} {od_breaks_five : Option Addr} {an_breaks_five : Option Addr} {sl_breaks_five : Array (Option Value)} {kV_breaks_five dc_breaks_five pm_breaks_five cd_breaks_five ct_breaks_five : Value} {oc_l_possible : Value} {od_l_possible : Option Addr} {an_l_possible : Option Addr} {sl_l_possible : Array (Option Value)} {kV_l_possible dc_l_possible pm_l_possible cd_l_possible ct_l_possible : Value} {oc_last_breach : Value} {od_last_breach : Option Addr} {an_last_breach : Option Addr} {sl_last_breach : Array (Option Value)} {kV_last_breach dc_last_breach pm_last_breach cd_last_breach ct_last_breach : Value} {oc_end_of : Value} {od_end_of : Option Addr} {an_end_of : Option Addr} {sl_end_of : Array (Option Value)} {kV_end_of dc_end_of pm_end_of cd_end_of ct_end_of : Value} {oc_breach : Value} {od_breach : Option Addr} {an_breach : Option Addr} {sl_breach : Array (Option Value)} {kV_breach dc_breach pm_breach cd_breach ct_breach : Value} {oc_all_letters : Value} {od_all_letters : Option Addr} {an_all_letters : Option Addr} {sl_all_letters : Array (Option Value)} {kV_all_letters dc_all_letters pm_all_letters cd_all_letters ct_all_letters : Value} {oc_Table___init : Value} {od_Table___init : Option Addr} {an_Table___init : Option Addr} {sl_Table___init : Array (Option Value)} {kV_Table___init dc_Table___init pm_Table___init cd_Table___init ct_Table___init : Value} {nm_xQuarrel q_xQuarrel : Str} {bs_xQuarrel bm_xQuarrel sub_xQuarrel : List Value} {sn_xQuarrel : List Str} {ab_xQuarrel : Bool} {col_xQuarrel : Option Bool} {dd_xQuarrel : Option Addr} {k0_xQuarrel k1_xQuarrel k2_xQuarrel k3_xQuarrel k5_xQuarrel : Option Value} {oc_xQuarrel kV_xQuarrel dc_xQuarrel pm_xQuarrel ct_xQuarrel : Value} {od_xQuarrel an_xQuarrel : Option Addr} {sl_xQuarrel : Array (Option Value)} {oc_Table___rshift : Value} {od_Table___rshift : Option Addr} {an_Table___rshift : Option Addr} {sl_Table___rshift : Array (Option Value)} {kV_Table___rshift dc_Table___rshift pm_Table___rshift cd_Table___rshift ct_Table___rshift : Value} {nm_xBlocked q_xBlocked : Str} {bs_xBlocked bm_xBlocked sub_xBlocked : List Value} {sn_xBlocked : List Str} {ab_xBlocked : Bool} {col_xBlocked : Option Bool} {dd_xBlocked : Option Addr} {k0_xBlocked k1_xBlocked k2_xBlocked k3_xBlocked k5_xBlocked : Option Value} {oc_xBlocked kV_xBlocked dc_xBlocked pm_xBlocked ct_xBlocked : Value} {od_xBlocked an_xBlocked : Option Addr} {sl_xBlocked : Array (Option Value)} {oc_parted : Value} {od_parted : Option Addr} {an_parted : Option Addr} {sl_parted : Array (Option Value)} {kV_parted dc_parted pm_parted cd_parted ct_parted : Value} {oc_walk : Value} {od_walk : Option Addr} {an_walk : Option Addr} {sl_walk : Array (Option Value)} {kV_walk dc_walk pm_walk cd_walk ct_walk : Value} {oc_l_walked_fc7 : Value} {od_l_walked_fc7 : Option Addr} {an_l_walked_fc7 : Option Addr} {sl_l_walked_fc7 : Array (Option Value)} {kV_l_walked_fc7 dc_l_walked_fc7 pm_l_walked_fc7 cd_l_walked_fc7 ct_l_walked_fc7 : Value} {oc_law_k28 : Value} {od_law_k28 : Option Addr} {an_law_k28 : Option Addr} {sl_law_k28 : Array (Option Value)} {kV_law_k28 dc_law_k28 pm_law_k28 cd_law_k28 ct_law_k28 : Value} (X : K.In h) (Gn : h.Ns mainGlobals mg) (hfa : mg "law" = some (.ref fa))
    (a_C_Table : PySem.W.nsIn K mainGlobals "Table" = some (some (.ref C_Table)))
    (i_C_Table : insB K C_Table = true)
    (a_E_PostError : PySem.W.nsIn K mainGlobals "PostError" = some (some (.ref E_PostError)))
    (a_E_BadInput : PySem.W.nsIn K mainGlobals "BadInput" = some (some (.ref E_BadInput)))
    (a_E_Quarrel : PySem.W.nsIn K mainGlobals "Quarrel" = some (some (.ref E_Quarrel)))
    (a_E_Blocked : PySem.W.nsIn K mainGlobals "Blocked" = some (some (.ref E_Blocked)))
    (z_len : PySem.W.nsIn K mainGlobals "len" = some none)
    (z_int : PySem.W.nsIn K mainGlobals "int" = some none)
    (z_range : PySem.W.nsIn K mainGlobals "range" = some none)
    (z_list : PySem.W.nsIn K mainGlobals "list" = some none)
    (z_isinstance : PySem.W.nsIn K mainGlobals "isinstance" = some none)
    (z_enumerate : PySem.W.nsIn K mainGlobals "enumerate" = some none)
    (z_sorted : PySem.W.nsIn K mainGlobals "sorted" = some none)
    (z_str : PySem.W.nsIn K mainGlobals "str" = some none)
    (z_tuple : PySem.W.nsIn K mainGlobals "tuple" = some none)
    (z_max : PySem.W.nsIn K mainGlobals "max" = some none)
    (z_min : PySem.W.nsIn K mainGlobals "min" = some none)
    (z_sum : PySem.W.nsIn K mainGlobals "sum" = some none)
    (z_all : PySem.W.nsIn K mainGlobals "all" = some none)
    (z_zip : PySem.W.nsIn K mainGlobals "zip" = some none)
    (z_iter : PySem.W.nsIn K mainGlobals "iter" = some none)
    (z_bool : PySem.W.nsIn K mainGlobals "bool" = some none)
    (z_ValueError : PySem.W.nsIn K mainGlobals "ValueError" = some none)
    (a_l_can_pass : PySem.W.nsIn K mainGlobals "_law_can_pass" = some (some (.ref f_l_can_pass)))
    (l_l_can_pass : K.lookup f_l_can_pass = some ⟨oc_l_can_pass, od_l_can_pass, .func (PySem.W.fnOf "_law_can_pass" "_law_can_pass" (defArgs s_l_can_pass) (defBody s_l_can_pass) (defScope s_l_can_pass) .none kV_l_can_pass dc_l_can_pass pm_l_can_pass an_l_can_pass cd_l_can_pass ct_l_can_pass), sl_l_can_pass⟩)
    (c_l_can_pass_ : PySem.W.codeIn K cd_l_can_pass "_law_can_pass" = true)
    (h_l_can_pass : PySem.W.keepIn K (.ref f_l_can_pass) = true)
    (a_l_draw : PySem.W.nsIn K mainGlobals "_law_draw" = some (some (.ref f_l_draw)))
    (l_l_draw : K.lookup f_l_draw = some ⟨oc_l_draw, od_l_draw, .func (PySem.W.fnOf "_law_draw" "_law_draw" (defArgs s_l_draw) (defBody s_l_draw) (defScope s_l_draw) .none kV_l_draw dc_l_draw pm_l_draw an_l_draw cd_l_draw ct_l_draw), sl_l_draw⟩)
    (c_l_draw_ : PySem.W.codeIn K cd_l_draw "_law_draw" = true)
    (h_l_draw : PySem.W.keepIn K (.ref f_l_draw) = true)
    (a_l_letters : PySem.W.nsIn K mainGlobals "_law_letters" = some (some (.ref f_l_letters)))
    (l_l_letters : K.lookup f_l_letters = some ⟨oc_l_letters, od_l_letters, .func (PySem.W.fnOf "_law_letters" "_law_letters" (defArgs s_l_letters) (defBody s_l_letters) (defScope s_l_letters) .none kV_l_letters dc_l_letters pm_l_letters an_l_letters cd_l_letters ct_l_letters), sl_l_letters⟩)
    (c_l_letters_ : PySem.W.codeIn K cd_l_letters "_law_letters" = true)
    (h_l_letters : PySem.W.keepIn K (.ref f_l_letters) = true)
    (a_l_cross : PySem.W.nsIn K mainGlobals "_law_cross" = some (some (.ref f_l_cross)))
    (l_l_cross : K.lookup f_l_cross = some ⟨oc_l_cross, od_l_cross, .func (PySem.W.fnOf "_law_cross" "_law_cross" (defArgs s_l_cross) (defBody s_l_cross) (defScope s_l_cross) .none kV_l_cross dc_l_cross pm_l_cross an_l_cross cd_l_cross ct_l_cross), sl_l_cross⟩)
    (c_l_cross_ : PySem.W.codeIn K cd_l_cross "_law_cross" = true)
    (h_l_cross : PySem.W.keepIn K (.ref f_l_cross) = true)
    (a_l_pool : PySem.W.nsIn K mainGlobals "_law_pool" = some (some (.ref f_l_pool)))
    (l_l_pool : K.lookup f_l_pool = some ⟨oc_l_pool, od_l_pool, .func (PySem.W.fnOf "_law_pool" "_law_pool" (defArgs s_l_pool) (defBody s_l_pool) (defScope s_l_pool) .none kV_l_pool dc_l_pool pm_l_pool an_l_pool cd_l_pool ct_l_pool), sl_l_pool⟩)
    (c_l_pool_ : PySem.W.codeIn K cd_l_pool "_law_pool" = true)
    (h_l_pool : PySem.W.keepIn K (.ref f_l_pool) = true)
    (a_check_posts : PySem.W.nsIn K mainGlobals "check_posts" = some (some (.ref f_check_posts)))
    (l_check_posts : K.lookup f_check_posts = some ⟨oc_check_posts, od_check_posts, .func (PySem.W.fnOf "check_posts" "check_posts" (defArgs s_check_posts) (defBody s_check_posts) (defScope s_check_posts) .none kV_check_posts dc_check_posts pm_check_posts an_check_posts cd_check_posts ct_check_posts), sl_check_posts⟩)
    (c_check_posts_ : PySem.W.codeIn K cd_check_posts "check_posts" = true)
    (h_check_posts : PySem.W.keepIn K (.ref f_check_posts) = true)
    (q_BadInput : PySem.W.excIn K E_BadInput [.type "ValueError", .type "Exception", .type "BaseException", .type "object"] "ValueError.__new__" = true)
    (ke_BadInput : PySem.W.keepIn K (.ref E_BadInput) = true)
    (sb_BadInput : PySem.W.subIn K (.ref E_BadInput) (.type "BaseException") = some true)
    (ty_BadInput : PySem.W.typeIn K (.ref E_BadInput) = some (.type "type"))
    (a_position : PySem.W.nsIn K mainGlobals "position" = some (some (.ref f_position)))
    (l_position : K.lookup f_position = some ⟨oc_position, od_position, .func (PySem.W.fnOf "position" "position" (defArgs s_position) (defBody s_position) (defScope s_position) .none kV_position dc_position pm_position an_position cd_position ct_position), sl_position⟩)
    (c_position_ : PySem.W.codeIn K cd_position "position" = true)
    (h_position : PySem.W.keepIn K (.ref f_position) = true)
    (a_threes : PySem.W.nsIn K mainGlobals "threes" = some (some (.ref f_threes)))
    (l_threes : K.lookup f_threes = some ⟨oc_threes, od_threes, .func (PySem.W.fnOf "threes" "threes" (defArgs s_threes) (defBody s_threes) (defScope s_threes) .none kV_threes dc_threes pm_threes an_threes cd_threes ct_threes), sl_threes⟩)
    (c_threes_ : PySem.W.codeIn K cd_threes "threes" = true)
    (h_threes : PySem.W.keepIn K (.ref f_threes) = true)
    (a_l_named : PySem.W.nsIn K mainGlobals "_law_named" = some (some (.ref f_l_named)))
    (l_l_named : K.lookup f_l_named = some ⟨oc_l_named, od_l_named, .func (PySem.W.fnOf "_law_named" "_law_named" (defArgs s_l_named) (defBody s_l_named) (defScope s_l_named) .none kV_l_named dc_l_named pm_l_named an_l_named cd_l_named ct_l_named), sl_l_named⟩)
    (c_l_named_ : PySem.W.codeIn K cd_l_named "_law_named" = true)
    (h_l_named : PySem.W.keepIn K (.ref f_l_named) = true)
    (a_l_free : PySem.W.nsIn K mainGlobals "_law_free" = some (some (.ref f_l_free)))
    (l_l_free : K.lookup f_l_free = some ⟨oc_l_free, od_l_free, .func (PySem.W.fnOf "_law_free" "_law_free" (defArgs s_l_free) (defBody s_l_free) (defScope s_l_free) .none kV_l_free dc_l_free pm_l_free an_l_free cd_l_free ct_l_free), sl_l_free⟩)
    (c_l_free_ : PySem.W.codeIn K cd_l_free "_law_free" = true)
    (h_l_free : PySem.W.keepIn K (.ref f_l_free) = true)
    (a_l_ways : PySem.W.nsIn K mainGlobals "_law_ways" = some (some (.ref f_l_ways)))
    (l_l_ways : K.lookup f_l_ways = some ⟨oc_l_ways, od_l_ways, .func (PySem.W.fnOf "_law_ways" "_law_ways" (defArgs s_l_ways) (defBody s_l_ways) (defScope s_l_ways) .none kV_l_ways dc_l_ways pm_l_ways an_l_ways cd_l_ways ct_l_ways), sl_l_ways⟩)
    (c_l_ways_ : PySem.W.codeIn K cd_l_ways "_law_ways" = true)
    (h_l_ways : PySem.W.keepIn K (.ref f_l_ways) = true)
    (a_l_turns : PySem.W.nsIn K mainGlobals "_law_turns" = some (some (.ref f_l_turns)))
    (l_l_turns : K.lookup f_l_turns = some ⟨oc_l_turns, od_l_turns, .func (PySem.W.fnOf "_law_turns" "_law_turns" (defArgs s_l_turns) (defBody s_l_turns) (defScope s_l_turns) .none kV_l_turns dc_l_turns pm_l_turns an_l_turns cd_l_turns ct_l_turns), sl_l_turns⟩)
    (c_l_turns_ : PySem.W.codeIn K cd_l_turns "_law_turns" = true)
    (h_l_turns : PySem.W.keepIn K (.ref f_l_turns) = true)
    (a_check_passing : PySem.W.nsIn K mainGlobals "check_passing" = some (some (.ref f_check_passing)))
    (l_check_passing : K.lookup f_check_passing = some ⟨oc_check_passing, od_check_passing, .func (PySem.W.fnOf "check_passing" "check_passing" (defArgs s_check_passing) (defBody s_check_passing) (defScope s_check_passing) .none kV_check_passing dc_check_passing pm_check_passing an_check_passing cd_check_passing ct_check_passing), sl_check_passing⟩)
    (c_check_passing_ : PySem.W.codeIn K cd_check_passing "check_passing" = true)
    (h_check_passing : PySem.W.keepIn K (.ref f_check_passing) = true)
    (a_turn_of : PySem.W.nsIn K mainGlobals "turn_of" = some (some (.ref f_turn_of)))
    (l_turn_of : K.lookup f_turn_of = some ⟨oc_turn_of, od_turn_of, .func (PySem.W.fnOf "turn_of" "turn_of" (defArgs s_turn_of) (defBody s_turn_of) (defScope s_turn_of) .none kV_turn_of dc_turn_of pm_turn_of an_turn_of cd_turn_of ct_turn_of), sl_turn_of⟩)
    (c_turn_of_ : PySem.W.codeIn K cd_turn_of "turn_of" = true)
    (h_turn_of : PySem.W.keepIn K (.ref f_turn_of) = true)
    (a_with_reversed : PySem.W.nsIn K mainGlobals "with_reversed" = some (some (.ref f_with_reversed)))
    (l_with_reversed : K.lookup f_with_reversed = some ⟨oc_with_reversed, od_with_reversed, .func (PySem.W.fnOf "with_reversed" "with_reversed" (defArgs s_with_reversed) (defBody s_with_reversed) (defScope s_with_reversed) .none kV_with_reversed dc_with_reversed pm_with_reversed an_with_reversed cd_with_reversed ct_with_reversed), sl_with_reversed⟩)
    (c_with_reversed_ : PySem.W.codeIn K cd_with_reversed "with_reversed" = true)
    (h_with_reversed : PySem.W.keepIn K (.ref f_with_reversed) = true)
    (a_l_far : PySem.W.nsIn K mainGlobals "_law_far" = some (some (.ref f_l_far)))
    (l_l_far : K.lookup f_l_far = some ⟨oc_l_far, od_l_far, .func (PySem.W.fnOf "_law_far" "_law_far" (defArgs s_l_far) (defBody s_l_far) (defScope s_l_far) .none kV_l_far dc_l_far pm_l_far an_l_far cd_l_far ct_l_far), sl_l_far⟩)
    (c_l_far_ : PySem.W.codeIn K cd_l_far "_law_far" = true)
    (h_l_far : PySem.W.keepIn K (.ref f_l_far) = true)
    (a_l_places : PySem.W.nsIn K mainGlobals "_law_places" = some (some (.ref f_l_places)))
    (l_l_places : K.lookup f_l_places = some ⟨oc_l_places, od_l_places, .func (PySem.W.fnOf "_law_places" "_law_places" (defArgs s_l_places) (defBody s_l_places) (defScope s_l_places) .none kV_l_places dc_l_places pm_l_places an_l_places cd_l_places ct_l_places), sl_l_places⟩)
    (c_l_places_ : PySem.W.codeIn K cd_l_places "_law_places" = true)
    (h_l_places : PySem.W.keepIn K (.ref f_l_places) = true)
    (a_blocker : PySem.W.nsIn K mainGlobals "blocker" = some (some (.ref f_blocker)))
    (l_blocker : K.lookup f_blocker = some ⟨oc_blocker, od_blocker, .func (PySem.W.fnOf "blocker" "blocker" (defArgs s_blocker) (defBody s_blocker) (defScope s_blocker) .none kV_blocker dc_blocker pm_blocker an_blocker cd_blocker ct_blocker), sl_blocker⟩)
    (c_blocker_ : PySem.W.codeIn K cd_blocker "blocker" = true)
    (h_blocker : PySem.W.keepIn K (.ref f_blocker) = true)
    (a_breaks_five : PySem.W.nsIn K mainGlobals "breaks_five" = some (some (.ref f_breaks_five)))
    (l_breaks_five : K.lookup f_breaks_five = some ⟨oc_breaks_five, od_breaks_five, .func (PySem.W.fnOf "breaks_five" "breaks_five" (defArgs s_breaks_five) (defBody s_breaks_five) (defScope s_breaks_five) .none kV_breaks_five dc_breaks_five pm_breaks_five an_breaks_five cd_breaks_five ct_breaks_five), sl_breaks_five⟩)
    (c_breaks_five_ : PySem.W.codeIn K cd_breaks_five "breaks_five" = true)
    (h_breaks_five : PySem.W.keepIn K (.ref f_breaks_five) = true)
    (a_l_possible : PySem.W.nsIn K mainGlobals "_law_possible" = some (some (.ref f_l_possible)))
    (l_l_possible : K.lookup f_l_possible = some ⟨oc_l_possible, od_l_possible, .func (PySem.W.fnOf "_law_possible" "_law_possible" (defArgs s_l_possible) (defBody s_l_possible) (defScope s_l_possible) .none kV_l_possible dc_l_possible pm_l_possible an_l_possible cd_l_possible ct_l_possible), sl_l_possible⟩)
    (c_l_possible_ : PySem.W.codeIn K cd_l_possible "_law_possible" = true)
    (h_l_possible : PySem.W.keepIn K (.ref f_l_possible) = true)
    (a_last_breach : PySem.W.nsIn K mainGlobals "last_breach" = some (some (.ref f_last_breach)))
    (l_last_breach : K.lookup f_last_breach = some ⟨oc_last_breach, od_last_breach, .func (PySem.W.fnOf "last_breach" "last_breach" (defArgs s_last_breach) (defBody s_last_breach) (defScope s_last_breach) .none kV_last_breach dc_last_breach pm_last_breach an_last_breach cd_last_breach ct_last_breach), sl_last_breach⟩)
    (c_last_breach_ : PySem.W.codeIn K cd_last_breach "last_breach" = true)
    (h_last_breach : PySem.W.keepIn K (.ref f_last_breach) = true)
    (a_end_of : PySem.W.nsIn K mainGlobals "end_of" = some (some (.ref f_end_of)))
    (l_end_of : K.lookup f_end_of = some ⟨oc_end_of, od_end_of, .func (PySem.W.fnOf "end_of" "end_of" (defArgs s_end_of) (defBody s_end_of) (defScope s_end_of) .none kV_end_of dc_end_of pm_end_of an_end_of cd_end_of ct_end_of), sl_end_of⟩)
    (c_end_of_ : PySem.W.codeIn K cd_end_of "end_of" = true)
    (h_end_of : PySem.W.keepIn K (.ref f_end_of) = true)
    (a_breach : PySem.W.nsIn K mainGlobals "breach" = some (some (.ref f_breach)))
    (l_breach : K.lookup f_breach = some ⟨oc_breach, od_breach, .func (PySem.W.fnOf "breach" "breach" (defArgs s_breach) (defBody s_breach) (defScope s_breach) .none kV_breach dc_breach pm_breach an_breach cd_breach ct_breach), sl_breach⟩)
    (c_breach_ : PySem.W.codeIn K cd_breach "breach" = true)
    (h_breach : PySem.W.keepIn K (.ref f_breach) = true)
    (a_all_letters : PySem.W.nsIn K mainGlobals "all_letters" = some (some (.ref f_all_letters)))
    (l_all_letters : K.lookup f_all_letters = some ⟨oc_all_letters, od_all_letters, .func (PySem.W.fnOf "all_letters" "all_letters" (defArgs s_all_letters) (defBody s_all_letters) (defScope s_all_letters) .none kV_all_letters dc_all_letters pm_all_letters an_all_letters cd_all_letters ct_all_letters), sl_all_letters⟩)
    (c_all_letters_ : PySem.W.codeIn K cd_all_letters "all_letters" = true)
    (h_all_letters : PySem.W.keepIn K (.ref f_all_letters) = true)
    (a_Table___init : PySem.W.findIn K (.ref C_Table) "__init__" = some (some (.ref f_Table___init)))
    (i_Table___init : PySem.W.isFn K (.ref f_Table___init) = true)
    (j_Table___init : PySem.W.fnIn K f_Table___init = true)
    (l_Table___init : K.lookup f_Table___init = some ⟨oc_Table___init, od_Table___init, .func (PySem.W.fnOf "__init__" "Table.__init__" (defArgs s_Table___init) (defBody s_Table___init) (defScope s_Table___init) .none kV_Table___init dc_Table___init pm_Table___init an_Table___init cd_Table___init ct_Table___init), sl_Table___init⟩)
    (c_Table___init_ : PySem.W.codeIn K cd_Table___init "Table.__init__" = true)
    (h_Table___init : PySem.W.keepIn K (.ref f_Table___init) = true)
    (kt_str : ktB K (fun i => match i with | 1 => C_Table | _ => 0) (.type "str") [("NoneType", false), ("bool", false), ("int", false), ("str", true), ("list", false), ("tuple", false)] [(1, false)] = true)
    (a_K_SIZES : PySem.W.nsIn K mainGlobals "SIZES" = some (some (.ref A_SIZES)))
    (k_K_SIZES : kdOk K A_SIZES [(1, 3), (4, 4), (10, 5), (20, 6), (35, 7), (56, 8)] = true)
    (ol_Quarrel : K.lookup E_Quarrel = some (excClassObj nm_xQuarrel q_xQuarrel E_Quarrel N_Quarrel bs_xQuarrel bm_xQuarrel true sn_xQuarrel sub_xQuarrel ab_xQuarrel col_xQuarrel dd_xQuarrel k0_xQuarrel k1_xQuarrel k2_xQuarrel k3_xQuarrel k5_xQuarrel "ValueError.__new__"))
    (rv_Quarrel : PySem.HandSPX.refsVE bm_xQuarrel = true)
    (ax_Quarrel : PySem.W.findIn K (.ref E_Quarrel) "__init__" = some (some (.ref fx_Quarrel)))
    (lx_Quarrel : K.lookup fx_Quarrel = some ⟨oc_xQuarrel, od_xQuarrel, .func (PySem.W.ksFn "__init__" "Quarrel.__init__" (defArgs (clsS (topS 4) 0)) (defBody (clsS (topS 4) 0)) (defScope (clsS (topS 4) 0)) .none kV_xQuarrel dc_xQuarrel pm_xQuarrel an_xQuarrel (.ref cda_Quarrel) ct_xQuarrel cc_Quarrel), sl_xQuarrel⟩)
    (eb_Quarrel : exiB K l.prog.main.file E_Quarrel cc_Quarrel cda_Quarrel fx_Quarrel "Quarrel.__init__" "posts" = true)
    (z_super : PySem.W.nsIn K mainGlobals "super" = some none)
    (tp_super : (l.prog.main.scope.names.lookup ("super" : Str)).isSome = false)
    (n_1_letters : PySem.W.findIn K (.ref C_Table) "letters" = some none)
    (n_1_posts : PySem.W.findIn K (.ref C_Table) "posts" = some none)
    (mk0_Table : PySem.W.makesIn K C_Table = true)
    (kc_Table : PySem.W.keepIn K (.ref C_Table) = true)
    (a_Table___rshift : PySem.W.findIn K (.ref C_Table) "__rshift__" = some (some (.ref f_Table___rshift)))
    (i_Table___rshift : PySem.W.isFn K (.ref f_Table___rshift) = true)
    (j_Table___rshift : PySem.W.fnIn K f_Table___rshift = true)
    (l_Table___rshift : K.lookup f_Table___rshift = some ⟨oc_Table___rshift, od_Table___rshift, .func (PySem.W.fnOf "__rshift__" "Table.__rshift__" (defArgs s_Table___rshift) (defBody s_Table___rshift) (defScope s_Table___rshift) .none kV_Table___rshift dc_Table___rshift pm_Table___rshift an_Table___rshift cd_Table___rshift ct_Table___rshift), sl_Table___rshift⟩)
    (c_Table___rshift_ : PySem.W.codeIn K cd_Table___rshift "Table.__rshift__" = true)
    (h_Table___rshift : PySem.W.keepIn K (.ref f_Table___rshift) = true)
    (ol_Blocked : K.lookup E_Blocked = some (excClassObj nm_xBlocked q_xBlocked E_Blocked N_Blocked bs_xBlocked bm_xBlocked true sn_xBlocked sub_xBlocked ab_xBlocked col_xBlocked dd_xBlocked k0_xBlocked k1_xBlocked k2_xBlocked k3_xBlocked k5_xBlocked "ValueError.__new__"))
    (rv_Blocked : PySem.HandSPX.refsVE bm_xBlocked = true)
    (ax_Blocked : PySem.W.findIn K (.ref E_Blocked) "__init__" = some (some (.ref fx_Blocked)))
    (lx_Blocked : K.lookup fx_Blocked = some ⟨oc_xBlocked, od_xBlocked, .func (PySem.W.ksFn "__init__" "Blocked.__init__" (defArgs (clsS (topS 5) 0)) (defBody (clsS (topS 5) 0)) (defScope (clsS (topS 5) 0)) .none kV_xBlocked dc_xBlocked pm_xBlocked an_xBlocked (.ref cda_Blocked) ct_xBlocked cc_Blocked), sl_xBlocked⟩)
    (eb_Blocked : exiB K l.prog.main.file E_Blocked cc_Blocked cda_Blocked fx_Blocked "Blocked.__init__" "observer" = true)
    (a_parted : PySem.W.nsIn K mainGlobals "parted" = some (some (.ref f_parted)))
    (l_parted : K.lookup f_parted = some ⟨oc_parted, od_parted, .func (PySem.W.fnOf "parted" "parted" (defArgs s_parted) (defBody s_parted) (defScope s_parted) .none kV_parted dc_parted pm_parted an_parted cd_parted ct_parted), sl_parted⟩)
    (c_parted_ : PySem.W.codeIn K cd_parted "parted" = true)
    (h_parted : PySem.W.keepIn K (.ref f_parted) = true)
    (a_walk : PySem.W.nsIn K mainGlobals "walk" = some (some (.ref f_walk)))
    (l_walk : K.lookup f_walk = some ⟨oc_walk, od_walk, .func (PySem.W.fnOf "walk" "walk" (defArgs s_walk) (defBody s_walk) (defScope s_walk) .none kV_walk dc_walk pm_walk an_walk cd_walk ct_walk), sl_walk⟩)
    (c_walk_ : PySem.W.codeIn K cd_walk "walk" = true)
    (h_walk : PySem.W.keepIn K (.ref f_walk) = true)
    (shb_Table : shrB K C_Table = true)
    (a_l_walked_fc7 : PySem.W.nsIn K mainGlobals "_law_walked" = some (some (.ref f_l_walked_fc7)))
    (l_l_walked_fc7 : K.lookup f_l_walked_fc7 = some ⟨oc_l_walked_fc7, od_l_walked_fc7, .func (PySem.W.fnOf "_law_walked" "_law_walked" (defArgs s_l_walked_fc7) (defBody s_l_walked_fc7) (defScope s_l_walked_fc7) .none kV_l_walked_fc7 dc_l_walked_fc7 pm_l_walked_fc7 an_l_walked_fc7 cd_l_walked_fc7 ct_l_walked_fc7), sl_l_walked_fc7⟩)
    (c_l_walked_fc7_ : PySem.W.codeIn K cd_l_walked_fc7 "_law_walked" = true)
    (h_l_walked_fc7 : PySem.W.keepIn K (.ref f_l_walked_fc7) = true)
    (ss_PostError : PySem.W.subIn K (.ref E_PostError) (.type "StopIteration") = some false)
    (ss_BadInput : PySem.W.subIn K (.ref E_BadInput) (.type "StopIteration") = some false)
    (ss_Quarrel : PySem.W.subIn K (.ref E_Quarrel) (.type "StopIteration") = some false)
    (ss_Blocked : PySem.W.subIn K (.ref E_Blocked) (.type "StopIteration") = some false)
    (xx_Blocked : xcB K [.ref E_PostError, .ref E_BadInput, .ref E_PostError, .ref E_Quarrel, .ref E_Blocked, .ref E_PostError] (.ref E_Blocked) [false, false, false, false, true, false] = true)
    (a_law_k28 : PySem.W.nsIn K mainGlobals "law" = some (some (.ref f_law_k28)))
    (l_law_k28 : K.lookup f_law_k28 = some ⟨oc_law_k28, od_law_k28, .func (PySem.W.fnOf "law" "law" (defArgs s_law_k28) (defBody s_law_k28) (defScope s_law_k28) .none kV_law_k28 dc_law_k28 pm_law_k28 an_law_k28 cd_law_k28 ct_law_k28), sl_law_k28⟩)
    (c_law_k28_ : PySem.W.codeIn K cd_law_k28 "law" = true)
    (h_law_k28 : PySem.W.keepIn K (.ref f_law_k28) = true)
    : ∃ fd : FuncData, (∀ (s : Shared) (v : Value), BindsTo s fd ⟨[v], []⟩ [("_law_script", v)]) ∧ ∀ base : Heap, K.In base → base.Ns mainGlobals mg → FnOk l.prog w K mg base (L2N.CX l.prog w) 15 fa fd ["_law_script"] (spLaw K m_law_k28) := by
  have e := hfa.symm.trans (PySem.W.mg_of X Gn a_law_k28)
  cases e
  refine ⟨PySem.W.fnOf "law" "law" (defArgs s_law_k28) (defBody s_law_k28) (defScope s_law_k28) .none kV_law_k28 dc_law_k28 pm_law_k28 an_law_k28 cd_law_k28 ct_law_k28, fun s v => .of_eq rfl, fun base _ _ => ?_⟩
  have B : Bi (theG l w K mg base C_Table E_PostError E_BadInput E_Quarrel E_Blocked) := ⟨PySem.W.mg_none_of X Gn z_len, PySem.W.mg_none_of X Gn z_int, PySem.W.mg_none_of X Gn z_range, PySem.W.mg_none_of X Gn z_list, PySem.W.mg_none_of X Gn z_isinstance, PySem.W.mg_none_of X Gn z_enumerate, PySem.W.mg_none_of X Gn z_sorted, PySem.W.mg_none_of X Gn z_str, PySem.W.mg_none_of X Gn z_tuple, PySem.W.mg_none_of X Gn z_max, PySem.W.mg_none_of X Gn z_min, PySem.W.mg_none_of X Gn z_sum, PySem.W.mg_none_of X Gn z_all, PySem.W.mg_none_of X Gn z_zip, PySem.W.mg_none_of X Gn z_iter, PySem.W.mg_none_of X Gn z_bool, PySem.W.mg_none_of X Gn z_ValueError⟩
  have F_l_can_pass := fun_mk (st := s_l_can_pass) l_l_can_pass c_l_can_pass_ h_l_can_pass
  have b_l_can_pass := F_l_can_pass.binds (ps := ["_law_turns_here", "_law_posts", "_law_a", "_law_b", "_law_c"]) fun _ _ _ _ _ _ us hl => (lsx5 hl).elim fun _ h => h.elim fun _ h => h.elim fun _ h => h.elim fun _ h => h.elim fun _ h => by subst h; rfl
  have o_l_can_pass := ok_l_can_pass (G := (theG l w K mg base C_Table E_PostError E_BadInput E_Quarrel E_Blocked)) F_l_can_pass (B := B)
  have k_l_can_pass : Kn (theG l w K mg base C_Table E_PostError E_BadInput E_Quarrel E_Blocked) 1 "_law_can_pass" m_l_can_pass := kn_mk o_l_can_pass (PySem.W.mg_of X Gn a_l_can_pass) h_l_can_pass b_l_can_pass
  have F_l_draw := fun_mk (st := s_l_draw) l_l_draw c_l_draw_ h_l_draw
  have b_l_draw := F_l_draw.binds (ps := ["_law_pool_here", "_law_k", "_law_many"]) fun _ _ _ _ _ _ us hl => (lsx3 hl).elim fun _ h => h.elim fun _ h => h.elim fun _ h => by subst h; rfl
  have o_l_draw := ok_l_draw (G := (theG l w K mg base C_Table E_PostError E_BadInput E_Quarrel E_Blocked)) F_l_draw (B := B)
  have k_l_draw : Kn (theG l w K mg base C_Table E_PostError E_BadInput E_Quarrel E_Blocked) 1 "_law_draw" m_l_draw := kn_mk o_l_draw (PySem.W.mg_of X Gn a_l_draw) h_l_draw b_l_draw
  have F_l_letters := fun_mk (st := s_l_letters) l_l_letters c_l_letters_ h_l_letters
  have b_l_letters := F_l_letters.binds (ps := ["_law_turns_here", "_law_posts"]) fun _ _ _ _ _ _ us hl => (lsx2 hl).elim fun _ h => h.elim fun _ h => by subst h; rfl
  have o_l_letters := ok_l_letters (G := (theG l w K mg base C_Table E_PostError E_BadInput E_Quarrel E_Blocked)) F_l_letters (B := B)
  have k_l_letters : Kn (theG l w K mg base C_Table E_PostError E_BadInput E_Quarrel E_Blocked) 1 "_law_letters" m_l_letters := kn_mk o_l_letters (PySem.W.mg_of X Gn a_l_letters) h_l_letters b_l_letters
  have F_l_cross := fun_mk (st := s_l_cross) l_l_cross c_l_cross_ h_l_cross
  have b_l_cross := F_l_cross.binds (ps := ["_law_p", "_law_q", "_law_r"]) fun _ _ _ _ _ _ us hl => (lsx3 hl).elim fun _ h => h.elim fun _ h => h.elim fun _ h => by subst h; rfl
  have o_l_cross := ok_l_cross (G := (theG l w K mg base C_Table E_PostError E_BadInput E_Quarrel E_Blocked)) F_l_cross
  have k_l_cross : Kn (theG l w K mg base C_Table E_PostError E_BadInput E_Quarrel E_Blocked) 1 "_law_cross" m_l_cross := kn_mk o_l_cross (PySem.W.mg_of X Gn a_l_cross) h_l_cross b_l_cross
  have F_l_pool := fun_mk (st := s_l_pool) l_l_pool c_l_pool_ h_l_pool
  have b_l_pool := F_l_pool.binds (ps := ["_law_script"]) fun _ _ _ _ _ _ us hl => (lsx1 hl).elim fun _ h => by subst h; rfl
  have o_l_pool := ok_l_pool (G := (theG l w K mg base C_Table E_PostError E_BadInput E_Quarrel E_Blocked)) F_l_pool (B := B)
  have k_l_pool : Kn (theG l w K mg base C_Table E_PostError E_BadInput E_Quarrel E_Blocked) 1 "_law_pool" m_l_pool := kn_mk o_l_pool (PySem.W.mg_of X Gn a_l_pool) h_l_pool b_l_pool
  have F_check_posts := fun_mk (st := s_check_posts) l_check_posts c_check_posts_ h_check_posts
  have b_check_posts := F_check_posts.binds (ps := ["posts", "named"]) fun _ _ _ _ _ _ us hl => (lsx2 hl).elim fun _ h => h.elim fun _ h => by subst h; rfl
  have x_BadInput : ExcK (theG l w K mg base C_Table E_PostError E_BadInput E_Quarrel E_Blocked) "BadInput" 1 := ⟨⟨E_BadInput, rfl, q_BadInput, PySem.W.mg_of X Gn a_E_BadInput, ke_BadInput, sb_BadInput, ty_BadInput⟩⟩
  have o_check_posts := ok_check_posts (G := (theG l w K mg base C_Table E_PostError E_BadInput E_Quarrel E_Blocked)) F_check_posts (B := B) (x_BadInput := x_BadInput)
  have k_check_posts : Kn (theG l w K mg base C_Table E_PostError E_BadInput E_Quarrel E_Blocked) 1 "check_posts" m_check_posts := kn_mk o_check_posts (PySem.W.mg_of X Gn a_check_posts) h_check_posts b_check_posts
  have F_position := fun_mk (st := s_position) l_position c_position_ h_position
  have b_position := F_position.binds (ps := ["a", "b", "c"]) fun _ _ _ _ _ _ us hl => (lsx3 hl).elim fun _ h => h.elim fun _ h => h.elim fun _ h => by subst h; rfl
  have o_position := ok_position (G := (theG l w K mg base C_Table E_PostError E_BadInput E_Quarrel E_Blocked)) F_position
  have k_position : Kn (theG l w K mg base C_Table E_PostError E_BadInput E_Quarrel E_Blocked) 1 "position" m_position := kn_mk o_position (PySem.W.mg_of X Gn a_position) h_position b_position
  have F_threes := fun_mk (st := s_threes) l_threes c_threes_ h_threes
  have b_threes := F_threes.binds (ps := ["posts"]) fun _ _ _ _ _ _ us hl => (lsx1 hl).elim fun _ h => by subst h; rfl
  have o_threes := ok_threes (G := (theG l w K mg base C_Table E_PostError E_BadInput E_Quarrel E_Blocked)) F_threes (B := B)
  have k_threes : Kn (theG l w K mg base C_Table E_PostError E_BadInput E_Quarrel E_Blocked) 1 "threes" m_threes := kn_mk o_threes (PySem.W.mg_of X Gn a_threes) h_threes b_threes
  have F_l_named := fun_mk (st := s_l_named) l_l_named c_l_named_ h_l_named
  have b_l_named := F_l_named.binds (ps := ["_law_pool_here", "_law_at", "_law_posts", "_law_many"]) fun _ _ _ _ _ _ us hl => (lsx4 hl).elim fun _ h => h.elim fun _ h => h.elim fun _ h => h.elim fun _ h => by subst h; rfl
  have o_l_named := ok_l_named (G := (theG l w K mg base C_Table E_PostError E_BadInput E_Quarrel E_Blocked)) F_l_named (B := B) (k_l_draw := k_l_draw.mono (by decide))
  have k_l_named : Kn (theG l w K mg base C_Table E_PostError E_BadInput E_Quarrel E_Blocked) 2 "_law_named" m_l_named := kn_mk o_l_named (PySem.W.mg_of X Gn a_l_named) h_l_named b_l_named
  have F_l_free := fun_mk (st := s_l_free) l_l_free c_l_free_ h_l_free
  have b_l_free := F_l_free.binds (ps := ["_law_places_here", "_law_spot"]) fun _ _ _ _ _ _ us hl => (lsx2 hl).elim fun _ h => h.elim fun _ h => by subst h; rfl
  have o_l_free := ok_l_free (G := (theG l w K mg base C_Table E_PostError E_BadInput E_Quarrel E_Blocked)) F_l_free (B := B) (k_l_cross := k_l_cross.mono (by decide))
  have k_l_free : Kn (theG l w K mg base C_Table E_PostError E_BadInput E_Quarrel E_Blocked) 2 "_law_free" m_l_free := kn_mk o_l_free (PySem.W.mg_of X Gn a_l_free) h_l_free b_l_free
  have F_l_ways := fun_mk (st := s_l_ways) l_l_ways c_l_ways_ h_l_ways
  have b_l_ways := F_l_ways.binds (ps := ["_law_turns_here", "_law_posts"]) fun _ _ _ _ _ _ us hl => (lsx2 hl).elim fun _ h => h.elim fun _ h => by subst h; rfl
  have o_l_ways := ok_l_ways (G := (theG l w K mg base C_Table E_PostError E_BadInput E_Quarrel E_Blocked)) F_l_ways (B := B) (k_l_can_pass := k_l_can_pass.mono (by decide))
  have k_l_ways : Kn (theG l w K mg base C_Table E_PostError E_BadInput E_Quarrel E_Blocked) 2 "_law_ways" m_l_ways := kn_mk o_l_ways (PySem.W.mg_of X Gn a_l_ways) h_l_ways b_l_ways
  have F_l_turns := fun_mk (st := s_l_turns) l_l_turns c_l_turns_ h_l_turns
  have b_l_turns := F_l_turns.binds (ps := ["_law_places_here"]) fun _ _ _ _ _ _ us hl => (lsx1 hl).elim fun _ h => by subst h; rfl
  have o_l_turns := ok_l_turns (G := (theG l w K mg base C_Table E_PostError E_BadInput E_Quarrel E_Blocked)) F_l_turns (B := B) (k_l_cross := k_l_cross.mono (by decide))
  have k_l_turns : Kn (theG l w K mg base C_Table E_PostError E_BadInput E_Quarrel E_Blocked) 2 "_law_turns" m_l_turns := kn_mk o_l_turns (PySem.W.mg_of X Gn a_l_turns) h_l_turns b_l_turns
  have F_check_passing := fun_mk (st := s_check_passing) l_check_passing c_check_passing_ h_check_passing
  have b_check_passing := F_check_passing.binds (ps := ["posts", "passing"]) fun _ _ _ _ _ _ us hl => (lsx2 hl).elim fun _ h => h.elim fun _ h => by subst h; rfl
  have o_check_passing := ok_check_passing (G := (theG l w K mg base C_Table E_PostError E_BadInput E_Quarrel E_Blocked)) F_check_passing (B := B) (k_check_posts := k_check_posts.mono (by decide)) (x_BadInput := x_BadInput)
  have k_check_passing : Kn (theG l w K mg base C_Table E_PostError E_BadInput E_Quarrel E_Blocked) 2 "check_passing" m_check_passing := kn_mk o_check_passing (PySem.W.mg_of X Gn a_check_passing) h_check_passing b_check_passing
  have F_turn_of := fun_mk (st := s_turn_of) l_turn_of c_turn_of_ h_turn_of
  have b_turn_of := F_turn_of.binds (ps := ["letters", "a", "b", "c"]) fun _ _ _ _ _ _ us hl => (lsx4 hl).elim fun _ h => h.elim fun _ h => h.elim fun _ h => h.elim fun _ h => by subst h; rfl
  have o_turn_of := ok_turn_of (G := (theG l w K mg base C_Table E_PostError E_BadInput E_Quarrel E_Blocked)) F_turn_of (k_position := k_position.mono (by decide))
  have k_turn_of : Kn (theG l w K mg base C_Table E_PostError E_BadInput E_Quarrel E_Blocked) 2 "turn_of" m_turn_of := kn_mk o_turn_of (PySem.W.mg_of X Gn a_turn_of) h_turn_of b_turn_of
  have F_with_reversed := fun_mk (st := s_with_reversed) l_with_reversed c_with_reversed_ h_with_reversed
  have b_with_reversed := F_with_reversed.binds (ps := ["letters", "a", "b", "c"]) fun _ _ _ _ _ _ us hl => (lsx4 hl).elim fun _ h => h.elim fun _ h => h.elim fun _ h => h.elim fun _ h => by subst h; rfl
  have o_with_reversed := ok_with_reversed (G := (theG l w K mg base C_Table E_PostError E_BadInput E_Quarrel E_Blocked)) F_with_reversed (B := B) (k_position := k_position.mono (by decide))
  have k_with_reversed : Kn (theG l w K mg base C_Table E_PostError E_BadInput E_Quarrel E_Blocked) 2 "with_reversed" m_with_reversed := kn_mk o_with_reversed (PySem.W.mg_of X Gn a_with_reversed) h_with_reversed b_with_reversed
  have F_l_far := fun_mk (st := s_l_far) l_l_far c_l_far_ h_l_far
  have b_l_far := F_l_far.binds (ps := ["_law_pool_here", "_law_posts"]) fun _ _ _ _ _ _ us hl => (lsx2 hl).elim fun _ h => h.elim fun _ h => by subst h; rfl
  have o_l_far := ok_l_far (G := (theG l w K mg base C_Table E_PostError E_BadInput E_Quarrel E_Blocked)) F_l_far (B := B) (k_l_draw := k_l_draw.mono (by decide)) (k_l_named := k_l_named.mono (by decide))
  have k_l_far : Kn (theG l w K mg base C_Table E_PostError E_BadInput E_Quarrel E_Blocked) 3 "_law_far" m_l_far := kn_mk o_l_far (PySem.W.mg_of X Gn a_l_far) h_l_far b_l_far
  have F_l_places := fun_mk (st := s_l_places) l_l_places c_l_places_ h_l_places
  have b_l_places := F_l_places.binds (ps := ["_law_pool_here", "_law_at", "_law_posts"]) fun _ _ _ _ _ _ us hl => (lsx3 hl).elim fun _ h => h.elim fun _ h => h.elim fun _ h => by subst h; rfl
  have o_l_places := ok_l_places (G := (theG l w K mg base C_Table E_PostError E_BadInput E_Quarrel E_Blocked)) F_l_places (B := B) (k_l_draw := k_l_draw.mono (by decide)) (k_l_free := k_l_free.mono (by decide))
  have k_l_places : Kn (theG l w K mg base C_Table E_PostError E_BadInput E_Quarrel E_Blocked) 3 "_law_places" m_l_places := kn_mk o_l_places (PySem.W.mg_of X Gn a_l_places) h_l_places b_l_places
  have F_blocker := fun_mk (st := s_blocker) l_blocker c_blocker_ h_blocker
  have b_blocker := F_blocker.binds (ps := ["letters", "posts", "a", "b", "c"]) fun _ _ _ _ _ _ us hl => (lsx5 hl).elim fun _ h => h.elim fun _ h => h.elim fun _ h => h.elim fun _ h => h.elim fun _ h => by subst h; rfl
  have o_blocker := ok_blocker (G := (theG l w K mg base C_Table E_PostError E_BadInput E_Quarrel E_Blocked)) F_blocker (B := B) (k_turn_of := k_turn_of.mono (by decide))
  have k_blocker : Kn (theG l w K mg base C_Table E_PostError E_BadInput E_Quarrel E_Blocked) 3 "blocker" m_blocker := kn_mk o_blocker (PySem.W.mg_of X Gn a_blocker) h_blocker b_blocker
  have F_breaks_five := fun_mk (st := s_breaks_five) l_breaks_five c_breaks_five_ h_breaks_five
  have b_breaks_five := F_breaks_five.binds (ps := ["letters", "x", "a", "b", "c", "d"]) fun _ _ _ _ _ _ us hl => (lsx6 hl).elim fun _ h => h.elim fun _ h => h.elim fun _ h => h.elim fun _ h => h.elim fun _ h => h.elim fun _ h => by subst h; rfl
  have o_breaks_five := ok_breaks_five (G := (theG l w K mg base C_Table E_PostError E_BadInput E_Quarrel E_Blocked)) F_breaks_five (k_turn_of := k_turn_of.mono (by decide))
  have k_breaks_five : Kn (theG l w K mg base C_Table E_PostError E_BadInput E_Quarrel E_Blocked) 3 "breaks_five" m_breaks_five := kn_mk o_breaks_five (PySem.W.mg_of X Gn a_breaks_five) h_breaks_five b_breaks_five
  have F_l_possible := fun_mk (st := s_l_possible) l_l_possible c_l_possible_ h_l_possible
  have b_l_possible := F_l_possible.binds (ps := ["_law_pool_here", "_law_posts", "_law_turns_here"]) fun _ _ _ _ _ _ us hl => (lsx3 hl).elim fun _ h => h.elim fun _ h => h.elim fun _ h => by subst h; rfl
  have o_l_possible := ok_l_possible (G := (theG l w K mg base C_Table E_PostError E_BadInput E_Quarrel E_Blocked)) F_l_possible (B := B) (k_l_draw := k_l_draw.mono (by decide)) (k_l_far := k_l_far.mono (by decide)) (k_l_ways := k_l_ways.mono (by decide))
  have k_l_possible : Kn (theG l w K mg base C_Table E_PostError E_BadInput E_Quarrel E_Blocked) 4 "_law_possible" m_l_possible := kn_mk o_l_possible (PySem.W.mg_of X Gn a_l_possible) h_l_possible b_l_possible
  have F_last_breach := fun_mk (st := s_last_breach) l_last_breach c_last_breach_ h_last_breach
  have b_last_breach := F_last_breach.binds (ps := ["letters", "a", "b", "c"]) fun _ _ _ _ _ _ us hl => (lsx4 hl).elim fun _ h => h.elim fun _ h => h.elim fun _ h => h.elim fun _ h => by subst h; rfl
  have o_last_breach := ok_last_breach (G := (theG l w K mg base C_Table E_PostError E_BadInput E_Quarrel E_Blocked)) F_last_breach (B := B) (k_breaks_five := k_breaks_five.mono (by decide)) (k_position := k_position.mono (by decide))
  have k_last_breach : Kn (theG l w K mg base C_Table E_PostError E_BadInput E_Quarrel E_Blocked) 4 "last_breach" m_last_breach := kn_mk o_last_breach (PySem.W.mg_of X Gn a_last_breach) h_last_breach b_last_breach
  have F_end_of := fun_mk (st := s_end_of) l_end_of c_end_of_ h_end_of
  have b_end_of := F_end_of.binds (ps := ["letters", "posts", "row"]) fun _ _ _ _ _ _ us hl => (lsx3 hl).elim fun _ h => h.elim fun _ h => h.elim fun _ h => by subst h; rfl
  have o_end_of := ok_end_of (G := (theG l w K mg base C_Table E_PostError E_BadInput E_Quarrel E_Blocked)) F_end_of (k_blocker := k_blocker.mono (by decide)) (k_with_reversed := k_with_reversed.mono (by decide))
  have k_end_of : Kn (theG l w K mg base C_Table E_PostError E_BadInput E_Quarrel E_Blocked) 4 "end_of" m_end_of := kn_mk o_end_of (PySem.W.mg_of X Gn a_end_of) h_end_of b_end_of
  have F_breach := fun_mk (st := s_breach) l_breach c_breach_ h_breach
  have b_breach := F_breach.binds (ps := ["letters", "posts"]) fun _ _ _ _ _ _ us hl => (lsx2 hl).elim fun _ h => h.elim fun _ h => by subst h; rfl
  have o_breach := ok_breach (G := (theG l w K mg base C_Table E_PostError E_BadInput E_Quarrel E_Blocked)) F_breach (k_last_breach := k_last_breach.mono (by decide)) (k_threes := k_threes.mono (by decide))
  have k_breach : Kn (theG l w K mg base C_Table E_PostError E_BadInput E_Quarrel E_Blocked) 5 "breach" m_breach := kn_mk o_breach (PySem.W.mg_of X Gn a_breach) h_breach b_breach
  have F_all_letters := fun_mk (st := s_all_letters) l_all_letters c_all_letters_ h_all_letters
  have b_all_letters := F_all_letters.binds (ps := ["posts"]) fun _ _ _ _ _ _ us hl => (lsx1 hl).elim fun _ h => by subst h; rfl
  have o_all_letters := ok_all_letters (G := (theG l w K mg base C_Table E_PostError E_BadInput E_Quarrel E_Blocked)) F_all_letters (k_last_breach := k_last_breach.mono (by decide)) (k_threes := k_threes.mono (by decide))
  have k_all_letters : Kn (theG l w K mg base C_Table E_PostError E_BadInput E_Quarrel E_Blocked) 5 "all_letters" m_all_letters := kn_mk o_all_letters (PySem.W.mg_of X Gn a_all_letters) h_all_letters b_all_letters
  have F_Table___init := fun_mk (st := s_Table___init) l_Table___init c_Table___init_ h_Table___init
  have b_Table___init := F_Table___init.binds (ps := ["self", "letters"]) fun _ _ _ _ _ _ us hl => (lsx2 hl).elim fun _ h => h.elim fun _ h => by subst h; rfl
  have tn_str : TyN (theG l w K mg base C_Table E_PostError E_BadInput E_Quarrel E_Blocked) "str" [("NoneType", false), ("bool", false), ("int", false), ("str", true), ("list", false), ("tuple", false)] [(1, false)] := tyN_mk (cv := (.type "str")) (v := (.ty "str")) (.inr ⟨PySem.W.mg_none_of X Gn z_str, rfl, by decide⟩) rfl (.ty _) kt_str (by decide)
  have kd_SIZES : KdI (theG l w K mg base C_Table E_PostError E_BadInput E_Quarrel E_Blocked) "SIZES" [(1, 3), (4, 4), (10, 5), (20, 6), (35, 7), (56, 8)] := ⟨⟨A_SIZES, PySem.W.mg_of X Gn a_K_SIZES, k_K_SIZES⟩, by decide⟩
  have xf_Quarrel : ExF (theG l w K mg base C_Table E_PostError E_BadInput E_Quarrel E_Blocked) 2 "Quarrel" 3 "posts" := exF_mk (G := (theG l w K mg base C_Table E_PostError E_BadInput E_Quarrel E_Blocked)) (par := "posts") rfl (PySem.W.mg_of X Gn a_E_Quarrel) ol_Quarrel rv_Quarrel eb_Quarrel lx_Quarrel (PySem.W.mg_none_of X Gn z_super) tp_super (by decide +kernel) rfl rfl rfl (fun _ => rfl) (fun _ => rfl) (fun _ => rfl) (fun _ => rfl) (fun _ => rfl) rfl rfl (Binds.all fun us hl => match us, hl with | [_, _], _ => rfl)
  have fl_1_letters : Fld (theG l w K mg base C_Table E_PostError E_BadInput E_Quarrel E_Blocked) 1 "letters" := ⟨(insB_ok i_C_Table).1, n_1_letters⟩
  have fl_1_posts : Fld (theG l w K mg base C_Table E_PostError E_BadInput E_Quarrel E_Blocked) 1 "posts" := ⟨(insB_ok i_C_Table).1, n_1_posts⟩
  have o_Table___init := ok_Table___init (G := (theG l w K mg base C_Table E_PostError E_BadInput E_Quarrel E_Blocked)) F_Table___init (B := B) (k_breach := k_breach.mono (by decide)) (x_BadInput := x_BadInput) (tn_str := tn_str) (kd_SIZES := kd_SIZES) (xf_Quarrel := xf_Quarrel.mono (by decide)) (fl_1_letters := fl_1_letters) (fl_1_posts := fl_1_posts)
  have mk_Table : MkK (theG l w K mg base C_Table E_PostError E_BadInput E_Quarrel E_Blocked) 7 1 "Table" m_Table___init := ⟨⟨f_Table___init, _, _, 6, by decide, o_Table___init, PySem.W.mg_of X Gn a_C_Table, ⟨mk0_Table, a_Table___init, i_Table___init, kc_Table⟩, b_Table___init⟩⟩
  have F_Table___rshift := fun_mk (st := s_Table___rshift) l_Table___rshift c_Table___rshift_ h_Table___rshift
  have b_Table___rshift := F_Table___rshift.binds (ps := ["self", "other"]) fun _ _ _ _ _ _ us hl => (lsx2 hl).elim fun _ h => h.elim fun _ h => by subst h; rfl
  have xf_Blocked : ExF (theG l w K mg base C_Table E_PostError E_BadInput E_Quarrel E_Blocked) 2 "Blocked" 4 "observer" := exF_mk (G := (theG l w K mg base C_Table E_PostError E_BadInput E_Quarrel E_Blocked)) (par := "observer") rfl (PySem.W.mg_of X Gn a_E_Blocked) ol_Blocked rv_Blocked eb_Blocked lx_Blocked (PySem.W.mg_none_of X Gn z_super) tp_super (by decide +kernel) rfl rfl rfl (fun _ => rfl) (fun _ => rfl) (fun _ => rfl) (fun _ => rfl) (fun _ => rfl) rfl rfl (Binds.all fun us hl => match us, hl with | [_, _], _ => rfl)
  have o_Table___rshift := ok_Table___rshift (G := (theG l w K mg base C_Table E_PostError E_BadInput E_Quarrel E_Blocked)) F_Table___rshift (k_blocker := k_blocker.mono (by decide)) (k_check_passing := k_check_passing.mono (by decide)) (k_with_reversed := k_with_reversed.mono (by decide)) (fl_1_posts := fl_1_posts) (fl_1_letters := fl_1_letters) (xf_Blocked := xf_Blocked.mono (by decide)) (mk_Table := mk_Table.mono (by decide))
  have du_1_rshift : DunK (theG l w K mg base C_Table E_PostError E_BadInput E_Quarrel E_Blocked) 9 1 "__rshift__" m_Table___rshift := ⟨⟨f_Table___rshift, _, _, 8, by decide, o_Table___rshift, a_Table___rshift, i_Table___rshift, j_Table___rshift, b_Table___rshift⟩⟩
  have F_parted := fun_mk (st := s_parted) l_parted c_parted_ h_parted
  have b_parted := F_parted.binds (ps := ["posts", "first", "second"]) fun _ _ _ _ _ _ us hl => (lsx3 hl).elim fun _ h => h.elim fun _ h => h.elim fun _ h => by subst h; rfl
  have o_parted := ok_parted (G := (theG l w K mg base C_Table E_PostError E_BadInput E_Quarrel E_Blocked)) F_parted (k_all_letters := k_all_letters.mono (by decide)) (k_check_passing := k_check_passing.mono (by decide)) (k_end_of := k_end_of.mono (by decide)) (x_BadInput := x_BadInput) (mk_Table := mk_Table.mono (by decide))
  have k_parted : Kn (theG l w K mg base C_Table E_PostError E_BadInput E_Quarrel E_Blocked) 8 "parted" m_parted := kn_mk o_parted (PySem.W.mg_of X Gn a_parted) h_parted b_parted
  have F_walk := fun_mk (st := s_walk) l_walk c_walk_ h_walk
  have b_walk := F_walk.binds (ps := ["table", "row"]) fun _ _ _ _ _ _ us hl => (lsx2 hl).elim fun _ h => h.elim fun _ h => by subst h; rfl
  have sh_1 : ShrK (theG l w K mg base C_Table E_PostError E_BadInput E_Quarrel E_Blocked) 1 := ⟨shrB_ok shb_Table⟩
  have o_walk := ok_walk (G := (theG l w K mg base C_Table E_PostError E_BadInput E_Quarrel E_Blocked)) F_walk (k_check_passing := k_check_passing.mono (by decide)) (fl_1_posts := fl_1_posts) (du_1_rshift := du_1_rshift.mono (by decide)) (sh_1 := sh_1)
  have gk_walk : GKn (theG l w K mg base C_Table E_PostError E_BadInput E_Quarrel E_Blocked) 10 "walk" m_walk := ⟨⟨f_walk, _, _, o_walk, PySem.W.mg_of X Gn a_walk, h_walk, b_walk⟩⟩
  have F_l_walked_fc7 := fun_mk (st := s_l_walked_fc7) l_l_walked_fc7 c_l_walked_fc7_ h_l_walked_fc7
  have b_l_walked_fc7 := F_l_walked_fc7.binds (ps := ["_law_table", "_law_row"]) fun _ _ _ _ _ _ us hl => (lsx2 hl).elim fun _ h => h.elim fun _ h => by subst h; rfl
  have XO : XcOk (theG l w K mg base C_Table E_PostError E_BadInput E_Quarrel E_Blocked) 6 := fun c hc => match c, hc with | 0, _ => ss_PostError | 1, _ => ss_BadInput | 2, _ => ss_PostError | 3, _ => ss_Quarrel | 4, _ => ss_Blocked | 5, _ => ss_PostError | (n + 6), hc => absurd hc (by omega)
  have xn_Blocked : XcN (theG l w K mg base C_Table E_PostError E_BadInput E_Quarrel E_Blocked) "Blocked" [false, false, false, false, true, false] := xcN_mk (es := [.ref E_PostError, .ref E_BadInput, .ref E_PostError, .ref E_Quarrel, .ref E_Blocked, .ref E_PostError]) (cv := (.ref E_Blocked)) (v := (.ref E_Blocked)) (.inl (PySem.W.mg_of X Gn a_E_Blocked)) rfl (fun u r => r) (fun c b hb => match c, hb with | 0, _ => rfl | 1, _ => rfl | 2, _ => rfl | 3, _ => rfl | 4, _ => rfl | 5, _ => rfl | (n + 6), hb => by simp at hb) xx_Blocked (by decide)
  have o_l_walked_fc7 := ok_l_walked_fc7 (G := (theG l w K mg base C_Table E_PostError E_BadInput E_Quarrel E_Blocked)) F_l_walked_fc7 (XO := XO) (fl_1_letters := fl_1_letters) (xn_Blocked := xn_Blocked) (gk_walk := gk_walk)
  have k_l_walked_fc7 : Kn (theG l w K mg base C_Table E_PostError E_BadInput E_Quarrel E_Blocked) 14 "_law_walked" m_l_walked_fc7 := kn_mk o_l_walked_fc7 (PySem.W.mg_of X Gn a_l_walked_fc7) h_l_walked_fc7 b_l_walked_fc7
  have F_law_k28 := fun_mk (st := s_law_k28) l_law_k28 c_law_k28_ h_law_k28
  have b_law_k28 := F_law_k28.binds (ps := ["_law_script"]) fun _ _ _ _ _ _ us hl => (lsx1 hl).elim fun _ h => by subst h; rfl
  have o_law_k28 := ok_law_k28 (G := (theG l w K mg base C_Table E_PostError E_BadInput E_Quarrel E_Blocked)) F_law_k28 (B := B) (k_l_can_pass := k_l_can_pass.mono (by decide)) (k_l_draw := k_l_draw.mono (by decide)) (k_l_far := k_l_far.mono (by decide)) (k_l_letters := k_l_letters.mono (by decide)) (k_l_places := k_l_places.mono (by decide)) (k_l_pool := k_l_pool.mono (by decide)) (k_l_possible := k_l_possible.mono (by decide)) (k_l_turns := k_l_turns.mono (by decide)) (k_l_walked_fc7 := k_l_walked_fc7.mono (by decide)) (k_parted := k_parted.mono (by decide)) (mk_Table := mk_Table.mono (by decide))
  have k_law_k28 : Kn (theG l w K mg base C_Table E_PostError E_BadInput E_Quarrel E_Blocked) 15 "law" m_law_k28 := kn_mk o_law_k28 (PySem.W.mg_of X Gn a_law_k28) h_law_k28 b_law_k28
  exact o_law_k28.imp fun vs H Q E z => law_imp (G := (theG l w K mg base C_Table E_PostError E_BadInput E_Quarrel E_Blocked)) z
theorem walk {l : PySem.W.OpenLaw} {q : Program} {loose : List Str} {XP : (Str → Option Value) → Heap → Prop} {YP : World → Heap → Prop} {d : DefRec} {K : Params → PySem.W.Frag} (hn : l.most = some 63) (hdf : d.params.defaults = [])
    (hm : ∀ ns : List Int, ns.length ≤ 63 → (∀ z ∈ ns, Builtin.Int.intBits z ≤ 1048576) → m_law_k28 [.scr ns] = .ok (.bl true))
    (hY : ∀ (w : World) (h : Heap), YP w h → (K w.params).In h)
    (F : ∀ (w : World) (mg : Str → Option Value) (fa : Addr) (h : Heap), (K w.params).In h → h.Ns mainGlobals mg → mg d.name = some (.ref fa) →
      ∃ fd : FuncData, (∀ (s : Shared) (v : Value), BindsTo s fd ⟨[v], []⟩ [("_law_script", v)]) ∧ ∀ base : Heap, (K w.params).In base → base.Ns mainGlobals mg → FnOk l.prog w (K w.params) mg base (L2N.CX l.prog w) 15 fa fd ["_law_script"] (spLaw (K w.params) m_law_k28)) :
    PySem.W.WalkO q loose XP YP l.row.toRowW d [] (fun f vs => PySem.call f vs) :=
  L2.walk_ofB (n := 63) (k := 15) (x := "_law_script") (CX := fun w => L2N.CX l.prog w) (sp := fun w => spLaw (K w.params) m_law_k28) hn (by decide) hdf ⟨rfl, by decide, by decide⟩ hY F (fun _ _ a ns hl hb _ hS => ⟨a, ns, rfl, hS, hm ns hl hb, fun _ => rfl⟩) fun _ _ _ _ _ z => by
    obtain ⟨_, _, _, _, _, _, _, _, _, _, _, _, z⟩ := z
    exact z
end Mir
set_option Elab.async false
theorem PySem.W.Fast.tw10363176963376479552 : True := trivial
theorem PySem.W.Fast.tw10596368394478868573 : True := trivial
theorem PySem.W.Fast.tw16682946605643656648 : True := trivial
theorem PySem.W.Fast.tw16453309728949290625 : True := trivial
theorem PySem.W.Fast.tw14372905436174113145 : True := trivial
theorem PySem.W.Fast.tw14854998062022793464 : True := trivial
theorem PySem.W.Fast.tw12430215205591528225 : True := trivial
theorem PySem.W.Fast.tw8943599122858740880 : True := trivial
theorem PySem.W.Fast.tw7022650455628256322 : True := trivial
theorem PySem.W.Fast.tw2239494963953259996 : True := trivial
theorem PySem.W.Fast.tw14867802329894303751 : True := trivial
theorem PySem.W.Fast.tw5726815334247932984 : True := trivial
theorem PySem.W.Fast.tw10865774639507162921 : True := trivial
theorem PySem.W.Fast.tw6151430140468504656 : True := trivial
theorem PySem.W.Fast.tw10644995804378870422 : True := trivial
theorem PySem.W.Fast.tw2440743593508097552 : True := trivial
theorem PySem.W.Fast.tw14941538912145409894 : True := trivial
theorem PySem.W.Fast.tw12703381846305473987 : True := trivial
theorem PySem.W.Fast.tw2852522339029567952 : True := trivial
theorem PySem.W.Fast.tw10799135370314920045 : True := trivial
theorem PySem.W.Fast.tw2284440311817028139 : True := trivial
theorem PySem.W.Fast.tw343936800789151078 : True := trivial
theorem PySem.W.Fast.tw9490949583326885972 : True := trivial
theorem PySem.W.Fast.tw10146156007723728361 : True := trivial
theorem PySem.W.Fast.tw4681597420837062332 : True := trivial
open PySem PySem.W PyProof.Rows in
set_option maxRecDepth 100000 in
set_option maxHeartbeats 0 in
theorem PySem.Challenge.cw_movedposts_k28_whole_far_passings_exchan_holds : PySem.Challenge.rw_movedposts_k28_whole_far_passings_exchan.Holds := by
  w_on; o_law; k_head; (case hw => w_witness2)
  k_fill
  refine Mir.walk (l := PySem.Challenge.rw_movedposts_k28_whole_far_passings_exchan) rfl rfl Mir.law_k28_true (fun w h Y => PySem.W.kIn_of Y) ?F
  case F =>
    intro w mg fa h KX G hmg
    refine' Mir.all_mk KX G hmg ?a_C_Table ?i_C_Table ?a_E_PostError ?a_E_BadInput ?a_E_Quarrel ?a_E_Blocked ?z_len ?z_int ?z_range ?z_list ?z_isinstance ?z_enumerate ?z_sorted ?z_str ?z_tuple ?z_max ?z_min ?z_sum ?z_all ?z_zip ?z_iter ?z_bool ?z_ValueError ?a_l_can_pass ?l_l_can_pass ?c_l_can_pass_ ?h_l_can_pass ?a_l_draw ?l_l_draw ?c_l_draw_ ?h_l_draw ?a_l_letters ?l_l_letters ?c_l_letters_ ?h_l_letters ?a_l_cross ?l_l_cross ?c_l_cross_ ?h_l_cross ?a_l_pool ?l_l_pool ?c_l_pool_ ?h_l_pool ?a_check_posts ?l_check_posts ?c_check_posts_ ?h_check_posts ?q_BadInput ?ke_BadInput ?sb_BadInput ?ty_BadInput ?a_position ?l_position ?c_position_ ?h_position ?a_threes ?l_threes ?c_threes_ ?h_threes ?a_l_named ?l_l_named ?c_l_named_ ?h_l_named ?a_l_free ?l_l_free ?c_l_free_ ?h_l_free ?a_l_ways ?l_l_ways ?c_l_ways_ ?h_l_ways ?a_l_turns ?l_l_turns ?c_l_turns_ ?h_l_turns ?a_check_passing ?l_check_passing ?c_check_passing_ ?h_check_passing ?a_turn_of ?l_turn_of ?c_turn_of_ ?h_turn_of ?a_with_reversed ?l_with_reversed ?c_with_reversed_ ?h_with_reversed ?a_l_far ?l_l_far ?c_l_far_ ?h_l_far ?a_l_places ?l_l_places ?c_l_places_ ?h_l_places ?a_blocker ?l_blocker ?c_blocker_ ?h_blocker ?a_breaks_five ?l_breaks_five ?c_breaks_five_ ?h_breaks_five ?a_l_possible ?l_l_possible ?c_l_possible_ ?h_l_possible ?a_last_breach ?l_last_breach ?c_last_breach_ ?h_last_breach ?a_end_of ?l_end_of ?c_end_of_ ?h_end_of ?a_breach ?l_breach ?c_breach_ ?h_breach ?a_all_letters ?l_all_letters ?c_all_letters_ ?h_all_letters ?a_Table___init ?i_Table___init ?j_Table___init ?l_Table___init ?c_Table___init_ ?h_Table___init ?kt_str ?a_K_SIZES ?k_K_SIZES ?ol_Quarrel ?rv_Quarrel ?ax_Quarrel ?lx_Quarrel ?eb_Quarrel ?z_super ?tp_super ?n_1_letters ?n_1_posts ?mk0_Table ?kc_Table ?a_Table___rshift ?i_Table___rshift ?j_Table___rshift ?l_Table___rshift ?c_Table___rshift_ ?h_Table___rshift ?ol_Blocked ?rv_Blocked ?ax_Blocked ?lx_Blocked ?eb_Blocked ?a_parted ?l_parted ?c_parted_ ?h_parted ?a_walk ?l_walk ?c_walk_ ?h_walk ?shb_Table ?a_l_walked_fc7 ?l_l_walked_fc7 ?c_l_walked_fc7_ ?h_l_walked_fc7 ?ss_PostError ?ss_BadInput ?ss_Quarrel ?ss_Blocked ?xx_Blocked ?a_law_k28 ?l_law_k28 ?c_law_k28_ ?h_law_k28
    (case a_C_Table => first | k_is | k_exc | kernel_rfl)
    (case i_C_Table => first | k_is | k_exc | kernel_rfl)
    (case a_E_PostError => first | k_is | k_exc | kernel_rfl)
    (case a_E_BadInput => first | k_is | k_exc | kernel_rfl)
    (case a_E_Quarrel => first | k_is | k_exc | kernel_rfl)
    (case a_E_Blocked => first | k_is | k_exc | kernel_rfl)
    (case z_len => first | k_is | k_exc | kernel_rfl)
    (case z_int => first | k_is | k_exc | kernel_rfl)
    (case z_range => first | k_is | k_exc | kernel_rfl)
    (case z_list => first | k_is | k_exc | kernel_rfl)
    (case z_isinstance => first | k_is | k_exc | kernel_rfl)
    (case z_enumerate => first | k_is | k_exc | kernel_rfl)
    (case z_sorted => first | k_is | k_exc | kernel_rfl)
    (case z_str => first | k_is | k_exc | kernel_rfl)
    (case z_tuple => first | k_is | k_exc | kernel_rfl)
    (case z_max => first | k_is | k_exc | kernel_rfl)
    (case z_min => first | k_is | k_exc | kernel_rfl)
    (case z_sum => first | k_is | k_exc | kernel_rfl)
    (case z_all => first | k_is | k_exc | kernel_rfl)
    (case z_zip => first | k_is | k_exc | kernel_rfl)
    (case z_iter => first | k_is | k_exc | kernel_rfl)
    (case z_bool => first | k_is | k_exc | kernel_rfl)
    (case z_ValueError => first | k_is | k_exc | kernel_rfl)
    (case a_l_can_pass => first | k_is | k_exc | kernel_rfl)
    (case l_l_can_pass => first | k_is | k_exc | kernel_rfl)
    (case c_l_can_pass_ => first | k_is | k_exc | kernel_rfl)
    (case h_l_can_pass => first | k_is | k_exc | kernel_rfl)
    (case a_l_draw => first | k_is | k_exc | kernel_rfl)
    (case l_l_draw => first | k_is | k_exc | kernel_rfl)
    (case c_l_draw_ => first | k_is | k_exc | kernel_rfl)
    (case h_l_draw => first | k_is | k_exc | kernel_rfl)
    (case a_l_letters => first | k_is | k_exc | kernel_rfl)
    (case l_l_letters => first | k_is | k_exc | kernel_rfl)
    (case c_l_letters_ => first | k_is | k_exc | kernel_rfl)
    (case h_l_letters => first | k_is | k_exc | kernel_rfl)
    (case a_l_cross => first | k_is | k_exc | kernel_rfl)
    (case l_l_cross => first | k_is | k_exc | kernel_rfl)
    (case c_l_cross_ => first | k_is | k_exc | kernel_rfl)
    (case h_l_cross => first | k_is | k_exc | kernel_rfl)
    (case a_l_pool => first | k_is | k_exc | kernel_rfl)
    (case l_l_pool => first | k_is | k_exc | kernel_rfl)
    (case c_l_pool_ => first | k_is | k_exc | kernel_rfl)
    (case h_l_pool => first | k_is | k_exc | kernel_rfl)
    (case a_check_posts => first | k_is | k_exc | kernel_rfl)
    (case l_check_posts => first | k_is | k_exc | kernel_rfl)
    (case c_check_posts_ => first | k_is | k_exc | kernel_rfl)
    (case h_check_posts => first | k_is | k_exc | kernel_rfl)
    (case q_BadInput => first | k_is | k_exc | kernel_rfl)
    (case ke_BadInput => first | k_is | k_exc | kernel_rfl)
    (case sb_BadInput => first | k_is | k_exc | kernel_rfl)
    (case ty_BadInput => first | k_is | k_exc | kernel_rfl)
    (case a_position => first | k_is | k_exc | kernel_rfl)
    (case l_position => first | k_is | k_exc | kernel_rfl)
    (case c_position_ => first | k_is | k_exc | kernel_rfl)
    (case h_position => first | k_is | k_exc | kernel_rfl)
    (case a_threes => first | k_is | k_exc | kernel_rfl)
    (case l_threes => first | k_is | k_exc | kernel_rfl)
    (case c_threes_ => first | k_is | k_exc | kernel_rfl)
    (case h_threes => first | k_is | k_exc | kernel_rfl)
    (case a_l_named => first | k_is | k_exc | kernel_rfl)
    (case l_l_named => first | k_is | k_exc | kernel_rfl)
    (case c_l_named_ => first | k_is | k_exc | kernel_rfl)
    (case h_l_named => first | k_is | k_exc | kernel_rfl)
    (case a_l_free => first | k_is | k_exc | kernel_rfl)
    (case l_l_free => first | k_is | k_exc | kernel_rfl)
    (case c_l_free_ => first | k_is | k_exc | kernel_rfl)
    (case h_l_free => first | k_is | k_exc | kernel_rfl)
    (case a_l_ways => first | k_is | k_exc | kernel_rfl)
    (case l_l_ways => first | k_is | k_exc | kernel_rfl)
    (case c_l_ways_ => first | k_is | k_exc | kernel_rfl)
    (case h_l_ways => first | k_is | k_exc | kernel_rfl)
    (case a_l_turns => first | k_is | k_exc | kernel_rfl)
    (case l_l_turns => first | k_is | k_exc | kernel_rfl)
    (case c_l_turns_ => first | k_is | k_exc | kernel_rfl)
    (case h_l_turns => first | k_is | k_exc | kernel_rfl)
    (case a_check_passing => first | k_is | k_exc | kernel_rfl)
    (case l_check_passing => first | k_is | k_exc | kernel_rfl)
    (case c_check_passing_ => first | k_is | k_exc | kernel_rfl)
    (case h_check_passing => first | k_is | k_exc | kernel_rfl)
    (case a_turn_of => first | k_is | k_exc | kernel_rfl)
    (case l_turn_of => first | k_is | k_exc | kernel_rfl)
    (case c_turn_of_ => first | k_is | k_exc | kernel_rfl)
    (case h_turn_of => first | k_is | k_exc | kernel_rfl)
    (case a_with_reversed => first | k_is | k_exc | kernel_rfl)
    (case l_with_reversed => first | k_is | k_exc | kernel_rfl)
    (case c_with_reversed_ => first | k_is | k_exc | kernel_rfl)
    (case h_with_reversed => first | k_is | k_exc | kernel_rfl)
    (case a_l_far => first | k_is | k_exc | kernel_rfl)
    (case l_l_far => first | k_is | k_exc | kernel_rfl)
    (case c_l_far_ => first | k_is | k_exc | kernel_rfl)
    (case h_l_far => first | k_is | k_exc | kernel_rfl)
    (case a_l_places => first | k_is | k_exc | kernel_rfl)
    (case l_l_places => first | k_is | k_exc | kernel_rfl)
    (case c_l_places_ => first | k_is | k_exc | kernel_rfl)
    (case h_l_places => first | k_is | k_exc | kernel_rfl)
    (case a_blocker => first | k_is | k_exc | kernel_rfl)
    (case l_blocker => first | k_is | k_exc | kernel_rfl)
    (case c_blocker_ => first | k_is | k_exc | kernel_rfl)
    (case h_blocker => first | k_is | k_exc | kernel_rfl)
    (case a_breaks_five => first | k_is | k_exc | kernel_rfl)
    (case l_breaks_five => first | k_is | k_exc | kernel_rfl)
    (case c_breaks_five_ => first | k_is | k_exc | kernel_rfl)
    (case h_breaks_five => first | k_is | k_exc | kernel_rfl)
    (case a_l_possible => first | k_is | k_exc | kernel_rfl)
    (case l_l_possible => first | k_is | k_exc | kernel_rfl)
    (case c_l_possible_ => first | k_is | k_exc | kernel_rfl)
    (case h_l_possible => first | k_is | k_exc | kernel_rfl)
    (case a_last_breach => first | k_is | k_exc | kernel_rfl)
    (case l_last_breach => first | k_is | k_exc | kernel_rfl)
    (case c_last_breach_ => first | k_is | k_exc | kernel_rfl)
    (case h_last_breach => first | k_is | k_exc | kernel_rfl)
    (case a_end_of => first | k_is | k_exc | kernel_rfl)
    (case l_end_of => first | k_is | k_exc | kernel_rfl)
    (case c_end_of_ => first | k_is | k_exc | kernel_rfl)
    (case h_end_of => first | k_is | k_exc | kernel_rfl)
    (case a_breach => first | k_is | k_exc | kernel_rfl)
    (case l_breach => first | k_is | k_exc | kernel_rfl)
    (case c_breach_ => first | k_is | k_exc | kernel_rfl)
    (case h_breach => first | k_is | k_exc | kernel_rfl)
    (case a_all_letters => first | k_is | k_exc | kernel_rfl)
    (case l_all_letters => first | k_is | k_exc | kernel_rfl)
    (case c_all_letters_ => first | k_is | k_exc | kernel_rfl)
    (case h_all_letters => first | k_is | k_exc | kernel_rfl)
    (case a_Table___init => first | k_is | k_exc | kernel_rfl)
    (case i_Table___init => first | k_is | k_exc | kernel_rfl)
    (case j_Table___init => first | k_is | k_exc | kernel_rfl)
    (case l_Table___init => first | k_is | k_exc | kernel_rfl)
    (case c_Table___init_ => first | k_is | k_exc | kernel_rfl)
    (case h_Table___init => first | k_is | k_exc | kernel_rfl)
    (case kt_str => first | k_is | k_exc | kernel_rfl)
    (case a_K_SIZES => first | k_is | k_exc | kernel_rfl)
    (case k_K_SIZES => first | k_is | k_exc | kernel_rfl)
    (case ol_Quarrel => first | k_is | k_exc | kernel_rfl)
    (case rv_Quarrel => first | k_is | k_exc | kernel_rfl)
    (case ax_Quarrel => first | k_is | k_exc | kernel_rfl)
    (case lx_Quarrel => first | k_is | k_exc | kernel_rfl)
    (case eb_Quarrel => first | k_is | k_exc | kernel_rfl)
    (case z_super => first | k_is | k_exc | kernel_rfl)
    (case tp_super => first | k_is | k_exc | kernel_rfl)
    (case n_1_letters => first | k_is | k_exc | kernel_rfl)
    (case n_1_posts => first | k_is | k_exc | kernel_rfl)
    (case mk0_Table => first | k_is | k_exc | kernel_rfl)
    (case kc_Table => first | k_is | k_exc | kernel_rfl)
    (case a_Table___rshift => first | k_is | k_exc | kernel_rfl)
    (case i_Table___rshift => first | k_is | k_exc | kernel_rfl)
    (case j_Table___rshift => first | k_is | k_exc | kernel_rfl)
    (case l_Table___rshift => first | k_is | k_exc | kernel_rfl)
    (case c_Table___rshift_ => first | k_is | k_exc | kernel_rfl)
    (case h_Table___rshift => first | k_is | k_exc | kernel_rfl)
    (case ol_Blocked => first | k_is | k_exc | kernel_rfl)
    (case rv_Blocked => first | k_is | k_exc | kernel_rfl)
    (case ax_Blocked => first | k_is | k_exc | kernel_rfl)
    (case lx_Blocked => first | k_is | k_exc | kernel_rfl)
    (case eb_Blocked => first | k_is | k_exc | kernel_rfl)
    (case a_parted => first | k_is | k_exc | kernel_rfl)
    (case l_parted => first | k_is | k_exc | kernel_rfl)
    (case c_parted_ => first | k_is | k_exc | kernel_rfl)
    (case h_parted => first | k_is | k_exc | kernel_rfl)
    (case a_walk => first | k_is | k_exc | kernel_rfl)
    (case l_walk => first | k_is | k_exc | kernel_rfl)
    (case c_walk_ => first | k_is | k_exc | kernel_rfl)
    (case h_walk => first | k_is | k_exc | kernel_rfl)
    (case shb_Table => first | k_is | k_exc | kernel_rfl)
    (case a_l_walked_fc7 => first | k_is | k_exc | kernel_rfl)
    (case l_l_walked_fc7 => first | k_is | k_exc | kernel_rfl)
    (case c_l_walked_fc7_ => first | k_is | k_exc | kernel_rfl)
    (case h_l_walked_fc7 => first | k_is | k_exc | kernel_rfl)
    (case ss_PostError => first | k_is | k_exc | kernel_rfl)
    (case ss_BadInput => first | k_is | k_exc | kernel_rfl)
    (case ss_Quarrel => first | k_is | k_exc | kernel_rfl)
    (case ss_Blocked => first | k_is | k_exc | kernel_rfl)
    (case xx_Blocked => first | k_is | k_exc | kernel_rfl)
    (case a_law_k28 => first | k_is | k_exc | kernel_rfl)
    (case l_law_k28 => first | k_is | k_exc | kernel_rfl)
    (case c_law_k28_ => first | k_is | k_exc | kernel_rfl)
    (case h_law_k28 => first | k_is | k_exc | kernel_rfl)
namespace Mir
end Mir
