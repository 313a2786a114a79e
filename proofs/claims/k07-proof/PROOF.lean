import PyProof.Rows.All
import Wide.All
import OpenK.AllK
import Wide.FinOn
import HandS.ForMost
import HandS.Exc
import HandS.ExcOwn
import HandS.CallSlots
import HandS.WordsExc
import HandS.TupAny
import HandS.Star
import HandS.Deep
import HandS.IsInst
import HandS.Flow
import HandS.TupMul
import KE.LtData
import KE.DataEq
import KE.SortData
import HandS.Walk
import HandS.Zip
import HandS.DictComp
import HandS.CallLocal
import HandS.ExcSuper
import HandS.ExcInit
import KE.KExcLine
import HandS.TryMany
import HandS.ExcField
import KE.KExcIs
import HandS.Lambda
import HandS.Style
import KE.GoesMore
import KE.KDictZip
import KE.GoesZip
import KE.GoesEnum
import PyProof.Rows.EqBoolInt
import HandS.Sort
import KE.DataCmp
import PyProof.ReprRoads
import HandS.EndOwn
import HandS.SetTxt0
import HandS.SetFor
import HandS.WordsDict
import PyProof.ReprLen
import PySem.Challenge.RW_rulesonwebs_k07_whole_maps_each_once_by
set_option Elab.async false
set_option linter.all false
set_option maxRecDepth 100000
set_option maxHeartbeats 8000000
-- DnBase
/-! Dn: Python values as plain data, expressions as plain functions over slots and a small memory. -/
namespace Dn
open PySem L2

inductive D where
  | non
  | bl (b : Bool)
  | int (i : Int)
  | str (x : Str)
  | tup (ds : List D)
  | lst (ds : List D)
  | dct (ks : List Key) (ds : List D)
  | ref (i : Nat)
  | fn (n : Str)
inductive MO where
  | lst (ds : List D)
  | dct (ks : List Key) (ds : List D)
abbrev Mem := List MO
inductive Sl where
  | un
  | val (d : D)
  | own (o : MO)
abbrev Rho := List Sl
inductive R (α : Type) where
  | ok (a : α) (ρ : Rho) (M : Mem)
  | exc (n : Str) (t : D) (ρ : Rho) (M : Mem)
  | stuck
def R.bind {α β : Type} : R α → (α → Rho → Mem → R β) → R β
  | .ok a ρ M, f => f a ρ M
  | .exc n t ρ M, _ => .exc n t ρ M
  | .stuck, _ => .stuck
def R.noExc {α : Type} : R α → R α
  | .ok a ρ M => .ok a ρ M
  | _ => .stuck
abbrev E (α : Type) := Rho → Mem → R α
def eBind {α β : Type} (F : E α) (G : α → E β) : E β := fun ρ M => (F ρ M).bind G
def eOk {α : Type} (a : α) : E α := fun ρ M => .ok a ρ M
def eStuck {α : Type} : E α := fun _ _ => .stuck
def eMap {α β : Type} (f : α → β) (F : E α) : E β := eBind F fun a => eOk (f a)

/-! ### what may change, what stays -/
def Soft (u : Option HO) : Prop := (∃ xs, u = some (.lst xs)) ∨ ∃ kvs, u = some (.dK kvs)
structure Gc where
  K : PySem.W.Frag
  mg : Str → Option Value
  J : Hp → Prop
  stab : ∀ H p o, H p = none ∨ Soft (H p) → J H → J (upd H p o)
/-- a list that never changes -/
def Fz (K : PySem.W.Frag) (H : Hp) (p : Addr) (vs : List V) : Prop := (∃ o, H p = some (.frz o (.lst vs))) ∨ SqL K (fun _ => none) p vs
theorem Fz.seq {K : PySem.W.Frag} {H : Hp} {p : Addr} {vs : List V} (h : Fz K H p vs) : SqL K H p vs := by
  rcases h with ⟨o, h⟩ | h
  · exact .inl (.inr ⟨o, h⟩)
  · rcases h with (h | ⟨o, h⟩) | h
    · cases h
    · cases h
    · exact .inr h
mutual
inductive At (Γ : Gc) (φ : List Addr) (H : Hp) : V → D → Prop
  | non : At Γ φ H .non .non
  | bl (b : Bool) : At Γ φ H (.bl b) (.bl b)
  | int (i : Int) : At Γ φ H (.int i) (.int i)
  | str (x : Str) : At Γ φ H (.str x) (.str x)
  | tup {p : Addr} {vs : List V} {ds : List D} : SqT Γ.K H p vs → vs.length ≤ sizeLine → Ats Γ φ H vs ds → At Γ φ H (.ref p) (.tup ds)
  | lst {p : Addr} {vs : List V} {ds : List D} : Fz Γ.K H p vs → vs.length ≤ sizeLine → Ats Γ φ H vs ds → At Γ φ H (.ref p) (.lst ds)
  | dct {p : Addr} {o : Obj} {ks : List Key} {vs : List V} {ds : List D} : H p = some (.frz o (.dK (ks.zip vs))) → ks.length = vs.length → Ats Γ φ H vs ds → At Γ φ H (.ref p) (.dct ks ds)
  | ref {p : Addr} {i : Nat} : φ[i]? = some p → At Γ φ H (.ref p) (.ref i)
  | fn {a : Addr} {n : Str} : Γ.mg n = some (.ref a) → At Γ φ H (.ref a) (.fn n)
inductive Ats (Γ : Gc) (φ : List Addr) (H : Hp) : List V → List D → Prop
  | nil : Ats Γ φ H [] []
  | cons {v : V} {vs : List V} {d : D} {ds : List D} : At Γ φ H v d → Ats Γ φ H vs ds → Ats Γ φ H (v :: vs) (d :: ds)
end
structure Pers (H H' : Hp) : Prop where
  tup : ∀ p xs, H p = some (.tup xs) → H' p = some (.tup xs)
  frz : ∀ p o u, H p = some (.frz o u) → H' p = some (.frz o u)
theorem Pers.refl (H : Hp) : Pers H H := ⟨fun _ _ h => h, fun _ _ _ h => h⟩
theorem Pers.trans {H H1 H2 : Hp} (a : Pers H H1) (b : Pers H1 H2) : Pers H H2 := ⟨fun p xs h => b.tup p xs (a.tup p xs h), fun p o u h => b.frz p o u (a.frz p o u h)⟩
theorem Pers.sqT {K : PySem.W.Frag} {H H' : Hp} {p : Addr} {vs : List V} (e : Pers H H') (h : SqT K H p vs) : SqT K H' p vs := by
  rcases h with (h | ⟨o, h⟩) | h
  · exact .inl (.inl (e.tup _ _ h))
  · exact .inl (.inr ⟨o, e.frz _ _ _ h⟩)
  · exact .inr h
theorem Pers.fz {K : PySem.W.Frag} {H H' : Hp} {p : Addr} {vs : List V} (e : Pers H H') (h : Fz K H p vs) : Fz K H' p vs := by
  rcases h with ⟨o, h⟩ | h
  · exact .inl ⟨o, e.frz _ _ _ h⟩
  · exact .inr h
def Pre (φ φ' : List Addr) : Prop := ∃ e, φ' = φ ++ e
theorem Pre.refl (φ : List Addr) : Pre φ φ := ⟨[], by simp⟩
theorem Pre.trans {a b c : List Addr} : Pre a b → Pre b c → Pre a c := fun ⟨e, h⟩ ⟨f, g⟩ => ⟨e ++ f, by rw [g, h, List.append_assoc]⟩
theorem Pre.get {φ φ' : List Addr} (h : Pre φ φ') {i : Nat} {p : Addr} (e : φ[i]? = some p) : φ'[i]? = some p := by
  obtain ⟨e', rfl⟩ := h
  obtain ⟨hi, _⟩ := List.getElem?_eq_some_iff.mp e
  rw [List.getElem?_append_left hi]; exact e
section
variable {Γ : Gc} {φ φ' : List Addr} {H H' : Hp}
mutual
theorem At.mono (a : Pre φ φ') (b : Pers H H') : ∀ {v : V} {d : D}, At Γ φ H v d → At Γ φ' H' v d
  | _, _, .non => .non
  | _, _, .bl b => .bl b
  | _, _, .int i => .int i
  | _, _, .str x => .str x
  | _, _, .tup h z r => .tup (b.sqT h) z (Ats.mono a b r)
  | _, _, .lst h z r => .lst (b.fz h) z (Ats.mono a b r)
  | _, _, .dct h z r => .dct (b.frz _ _ _ h) z (Ats.mono a b r)
  | _, _, .ref h => .ref (a.get h)
  | _, _, .fn h => .fn h
theorem Ats.mono (a : Pre φ φ') (b : Pers H H') : ∀ {vs : List V} {ds : List D}, Ats Γ φ H vs ds → Ats Γ φ' H' vs ds
  | _, _, .nil => .nil
  | _, _, .cons h r => .cons (At.mono a b h) (Ats.mono a b r)
end
theorem Ats.length : ∀ {vs : List V} {ds : List D}, Ats Γ φ H vs ds → vs.length = ds.length
  | _, _, .nil => rfl
  | _, _, .cons _ r => by rw [List.length_cons, List.length_cons, Ats.length r]
theorem Ats.append : ∀ {vs : List V} {ds : List D} {ws : List V} {es : List D}, Ats Γ φ H vs ds → Ats Γ φ H ws es → Ats Γ φ H (vs ++ ws) (ds ++ es)
  | _, _, _, _, .nil, s => s
  | _, _, _, _, .cons h r, s => .cons h (Ats.append r s)
theorem Ats.get : ∀ {vs : List V} {ds : List D}, Ats Γ φ H vs ds → ∀ {i : Nat} {d : D}, ds[i]? = some d → ∃ v, vs[i]? = some v ∧ At Γ φ H v d
  | _, _, .nil, _, _, e => by simp at e
  | _, _, .cons h r, 0, _, e => by simp at e; subst e; exact ⟨_, rfl, h⟩
  | _, _, .cons h r, i + 1, _, e => by
    obtain ⟨v, h1, h2⟩ := Ats.get r (i := i) (by simpa using e)
    exact ⟨v, by simpa using h1, h2⟩
theorem Ats.getV : ∀ {vs : List V} {ds : List D}, Ats Γ φ H vs ds → ∀ {i : Nat} {v : V}, vs[i]? = some v → ∃ d, ds[i]? = some d ∧ At Γ φ H v d
  | _, _, .nil, _, _, e => by simp at e
  | _, _, .cons h r, 0, _, e => by simp at e; subst e; exact ⟨_, rfl, h⟩
  | _, _, .cons h r, i + 1, _, e => by
    obtain ⟨v, h1, h2⟩ := Ats.getV r (i := i) (by simpa using e)
    exact ⟨v, by simpa using h1, h2⟩
theorem Ats.take : ∀ {vs : List V} {ds : List D} (n : Nat), Ats Γ φ H vs ds → Ats Γ φ H (vs.take n) (ds.take n)
  | _, _, 0, _ => .nil
  | _, _, _ + 1, .nil => .nil
  | _, _, n + 1, .cons h r => .cons h (Ats.take n r)
theorem Ats.drop : ∀ {vs : List V} {ds : List D} (n : Nat), Ats Γ φ H vs ds → Ats Γ φ H (vs.drop n) (ds.drop n)
  | _, _, 0, r => r
  | _, _, _ + 1, .nil => .nil
  | _, _, n + 1, .cons _ r => Ats.drop n r
theorem Ats.set : ∀ {vs : List V} {ds : List D} (i : Nat) {v : V} {d : D}, At Γ φ H v d → Ats Γ φ H vs ds → Ats Γ φ H (vs.set i v) (ds.set i d)
  | _, _, _, _, _, _, .nil => .nil
  | _, _, 0, _, _, a, .cons _ r => .cons a r
  | _, _, i + 1, _, _, a, .cons h r => .cons h (Ats.set i a r)
theorem Ats.reverse {vs : List V} {ds : List D} (h : Ats Γ φ H vs ds) : Ats Γ φ H vs.reverse ds.reverse := by
  induction vs generalizing ds with
  | nil => cases h; exact .nil
  | cons v vs ih =>
    cases h with
    | cons a r => rw [List.reverse_cons, List.reverse_cons]; exact (ih r).append (.cons a .nil)
end

/-! ### objects of the memory, of the slots -/
def MoAt (Γ : Gc) (φ : List Addr) (H : Hp) (p : Addr) : MO → Prop
  | .lst ds => ∃ vs, H p = some (.lst vs) ∧ vs.length ≤ sizeLine ∧ Ats Γ φ H vs ds
  | .dct ks ds => ∃ vs, H p = some (.dK (ks.zip vs)) ∧ ks.length = vs.length ∧ Ats Γ φ H vs ds
theorem MoAt.soft {Γ : Gc} {φ : List Addr} {H : Hp} {p : Addr} {o : MO} (h : MoAt Γ φ H p o) : Soft (H p) := by
  cases o with
  | lst ds => obtain ⟨vs, e, _⟩ := h; exact .inl ⟨_, e⟩
  | dct ks ds => obtain ⟨vs, e, _⟩ := h; exact .inr ⟨_, e⟩
theorem MoAt.move {Γ : Gc} {φ φ' : List Addr} {H H' : Hp} {p : Addr} {o : MO} (h : MoAt Γ φ H p o) (a : Pre φ φ') (b : Pers H H') (e : ∀ u, H p = some u → H' p = some u) : MoAt Γ φ' H' p o := by
  cases o with
  | lst ds => obtain ⟨vs, q, z, r⟩ := h; exact ⟨vs, e _ q, z, r.mono a b⟩
  | dct ks ds => obtain ⟨vs, q, z, r⟩ := h; exact ⟨vs, e _ q, z, r.mono a b⟩
theorem Soft.is {u : Option HO} (h : Soft u) : ∃ o, u = some o := by
  rcases h with ⟨_, h⟩ | ⟨_, h⟩ <;> exact ⟨_, h⟩
theorem Soft.ne {H : Hp} {p q : Addr} {o : HO} (h : Soft (H p)) (e : H q = some o) (n : ¬ Soft (some o)) : q ≠ p := by
  rintro rfl; rw [e] at h; exact n h
theorem not_soft_tup {xs : List V} : ¬ Soft (some (.tup xs)) := by rintro (⟨_, h⟩ | ⟨_, h⟩) <;> cases h
theorem not_soft_frz {o : Obj} {u : HO} : ¬ Soft (some (.frz o u)) := by rintro (⟨_, h⟩ | ⟨_, h⟩) <;> cases h
def Owned (ρ : Rho) (σ : L2.St) (p : Addr) : Prop := ∃ (i : Nat) (o : MO), ρ[i]? = some (Sl.own o) ∧ σ[i]? = some (some (V.ref p))
structure In (Γ : Gc) (φ : List Addr) (ρ : Rho) (M : Mem) (σ : L2.St) (H : Hp) : Prop where
  len : σ.length = ρ.length
  val : ∀ (i : Nat) (d : D), ρ[i]? = some (Sl.val d) → ∃ v, σ[i]? = some (some v) ∧ At Γ φ H v d
  own : ∀ (i : Nat) (o : MO), ρ[i]? = some (Sl.own o) → ∃ p, σ[i]? = some (some (V.ref p)) ∧ MoAt Γ φ H p o ∧ p ∉ φ
  sep : ∀ (i j : Nat) (a b : MO) (p : Addr), ρ[i]? = some (Sl.own a) → ρ[j]? = some (Sl.own b) → σ[i]? = some (some (V.ref p)) → σ[j]? = some (some (V.ref p)) → i = j
  rl : φ.length = M.length
  nd : φ.Nodup
  mem : ∀ (i : Nat) (o : MO), M[i]? = some o → ∃ p, φ[i]? = some p ∧ MoAt Γ φ H p o
  j : Γ.J H
def NT (o : HO) : Prop := ∀ ps, o ≠ .tbl ps
/-- nothing but a table of code -/
def Em (u : Option HO) : Prop := ∀ o, u = some o → ¬ NT o
theorem Em.none {u : Option HO} (h : u = none) : Em u := fun o e => by rw [h] at e; cases e
theorem Em.ne {H : Hp} {p q : Addr} {o : HO} (h : Em (H p)) (e : H q = some o) (nt : NT o) : q ≠ p := by rintro rfl; exact h _ e nt
theorem nt_tup {xs : List V} : NT (.tup xs) := fun _ h => nomatch h
theorem nt_frz {o : Obj} {u : HO} : NT (.frz o u) := fun _ h => nomatch h
theorem nt_lst {xs : List V} : NT (.lst xs) := fun _ h => nomatch h
theorem nt_dk {kvs : List (Key × V)} : NT (.dK kvs) := fun _ h => nomatch h
theorem Soft.nt {u : HO} (h : Soft (some u)) : NT u := by
  rcases h with ⟨_, h⟩ | ⟨_, h⟩ <;> cases h
  · exact nt_lst
  · exact nt_dk
structure Mono (φ : List Addr) (ρ : Rho) (σ : L2.St) (H : Hp) (φ' : List Addr) (ρ' : Rho) (σ' : L2.St) (H' : Hp) : Prop where
  pre : Pre φ φ'
  fresh : ∀ q, q ∈ φ' → q ∉ φ → Em (H q)
  pers : Pers H H'
  keep : ∀ p o, H p = some o → NT o → p ∉ φ → ¬ Owned ρ σ p → H' p = some o
  live : ∀ p o, H p = some o → NT o → ∃ o', H' p = some o' ∧ NT o'
  shr : ∀ p, Owned ρ' σ' p → Owned ρ σ p ∨ Em (H p)
section
variable {Γ : Gc} {φ φ' φ1 φ2 : List Addr} {ρ ρ' ρ1 ρ2 : Rho} {M M' M1 : Mem} {σ σ' σ1 σ2 : L2.St} {H H' H1 H2 : Hp} {p q : Addr}
theorem Mono.refl (φ : List Addr) (ρ : Rho) (σ : L2.St) (H : Hp) : Mono φ ρ σ H φ ρ σ H :=
  ⟨Pre.refl _, fun _ h n => absurd h n, Pers.refl _, fun _ _ h _ _ _ => h, fun _ o h nt => ⟨o, h, nt⟩, fun _ h => .inl h⟩
theorem Mono.back (m : Mono φ ρ σ H φ1 ρ1 σ1 H1) (h : Em (H1 p)) : Em (H p) := fun o e nt => by
  obtain ⟨o', e', n'⟩ := m.live p o e nt
  exact h _ e' n'
theorem Mono.trans (a : Mono φ ρ σ H φ1 ρ1 σ1 H1) (b : Mono φ1 ρ1 σ1 H1 φ2 ρ2 σ2 H2) : Mono φ ρ σ H φ2 ρ2 σ2 H2 where
  pre := a.pre.trans b.pre
  fresh := fun q h n => by
    by_cases h1 : q ∈ φ1
    · exact a.fresh q h1 n
    · exact a.back (b.fresh q h h1)
  pers := a.pers.trans b.pers
  keep := fun p o h nt n no => by
    refine b.keep p o (a.keep p o h nt n no) nt (fun h1 => ?_) fun h1 => ?_
    · exact a.fresh p h1 n _ h nt
    · rcases a.shr p h1 with q | q
      · exact no q
      · exact q _ h nt
  live := fun p o h nt => by
    obtain ⟨o1, h1, n1⟩ := a.live p o h nt
    exact b.live p o1 h1 n1
  shr := fun p h => by
    rcases b.shr p h with q | q
    · exact a.shr p q
    · exact .inr (a.back q)
theorem In.notOwnedE (I : In Γ φ ρ M σ H) (h : Em (H p)) : ¬ Owned ρ σ p := by
  rintro ⟨i, o, e, s⟩
  obtain ⟨p', s', m, _⟩ := I.own i o e
  rw [s] at s'; cases s'
  obtain ⟨u, hu⟩ := m.soft.is
  exact h _ hu (Soft.nt (hu ▸ m.soft))
theorem In.notOwned (I : In Γ φ ρ M σ H) (h : H p = none) : ¬ Owned ρ σ p := I.notOwnedE (.none h)
theorem In.softIn (I : In Γ φ ρ M σ H) (h : p ∈ φ) : Soft (H p) := by
  obtain ⟨i, hi, e⟩ := List.getElem_of_mem h
  have hm : i < M.length := by rw [← I.rl]; exact hi
  obtain ⟨p', e', m⟩ := I.mem i M[i] (by simp [hm])
  rw [List.getElem?_eq_getElem hi, e] at e'
  cases e'
  exact m.soft
theorem In.notInE (I : In Γ φ ρ M σ H) (h : Em (H p)) : p ∉ φ := fun q => by
  obtain ⟨o, e⟩ := (I.softIn q).is
  exact h _ e (Soft.nt (e ▸ I.softIn q))
theorem In.notIn (I : In Γ φ ρ M σ H) (h : H p = none) : p ∉ φ := I.notInE (.none h)
/-- all that is known goes along, the slots' own things and the memory where they are kept -/
theorem In.new (I : In Γ φ ρ M σ H) {o : HO} (h : H p = none) : In Γ φ ρ M σ (upd H p o) := by
  have ps : Pers H (upd H p o) := ⟨fun q xs e => by rw [upd_ne (ne_of_none e h)]; exact e, fun q _ _ e => by rw [upd_ne (ne_of_none e h)]; exact e⟩
  refine ⟨I.len, fun i d e => ?_, fun i c e => ?_, I.sep, I.rl, I.nd, fun i c e => ?_, Γ.stab _ _ _ (.inl h) I.j⟩
  · obtain ⟨v, s, a⟩ := I.val i d e
    exact ⟨v, s, a.mono (Pre.refl _) ps⟩
  · obtain ⟨q, s, m, n⟩ := I.own i c e
    exact ⟨q, s, m.move (Pre.refl _) ps fun u e => by rw [upd_ne (ne_of_none e h)]; exact e, n⟩
  · obtain ⟨q, s, m⟩ := I.mem i c e
    exact ⟨q, s, m.move (Pre.refl _) ps fun u e => by rw [upd_ne (ne_of_none e h)]; exact e⟩
theorem Mono.new {o : HO} (h : H p = none) : Mono φ ρ σ H φ ρ σ (upd H p o) :=
  ⟨Pre.refl _, fun _ a n => absurd a n, ⟨fun q xs e => by rw [upd_ne (ne_of_none e h)]; exact e, fun q _ _ e => by rw [upd_ne (ne_of_none e h)]; exact e⟩,
    fun q u e _ _ _ => by rw [upd_ne (ne_of_none e h)]; exact e, fun q u e nt => ⟨u, by rw [upd_ne (ne_of_none e h)]; exact e, nt⟩, fun _ h => .inl h⟩
end
end Dn
-- DnCore
/-! Dn: what a reading says of a plain function. -/
namespace Dn
open PySem L2

abbrev Rel (β α : Type) := Hp → List Addr → Rho → L2.St → Hp → β → α → Prop
def RD (Γ : Gc) : Rel V D := fun _ φ' _ _ H' v d => At Γ φ' H' v d
def RB : Rel Bool Bool := fun _ _ _ _ _ b c => b = c
def RDs (Γ : Gc) : Rel (List V) (List D) := fun _ φ' _ _ H' vs ds => Ats Γ φ' H' vs ds
/-- a new list -/
def RF (Γ : Gc) : Rel V (List D) := fun H φ' ρ' σ' H' v ds => ∃ p vs, v = .ref p ∧ Em (H p) ∧ p ∉ φ' ∧ ¬ Owned ρ' σ' p ∧ H' p = some (.lst vs) ∧ vs.length ≤ sizeLine ∧ Ats Γ φ' H' vs ds
/-- a list or a tuple that can be read -/
def RS (Γ : Gc) : Rel V (List D) := fun _ φ' _ _ H' v ds => ∃ p vs, v = .ref p ∧ (SqL Γ.K H' p vs ∨ SqT Γ.K H' p vs) ∧ vs.length ≤ sizeLine ∧ Ats Γ φ' H' vs ds
class RelOk {β α : Type} (Rl : Rel β α) : Prop where
  up : ∀ {H H1 : Hp} {φ' : List Addr} {ρ' : Rho} {σ' : L2.St} {H' : Hp} {b : β} {a : α}, (∀ p, Em (H1 p) → Em (H p)) → Rl H1 φ' ρ' σ' H' b a → Rl H φ' ρ' σ' H' b a
instance {Γ : Gc} : RelOk (RD Γ) := ⟨fun _ h => h⟩
instance : RelOk RB := ⟨fun _ h => h⟩
instance {Γ : Gc} : RelOk (RDs Γ) := ⟨fun _ h => h⟩
instance {Γ : Gc} : RelOk (RS Γ) := ⟨fun _ h => h⟩
instance {Γ : Gc} : RelOk (RF Γ) := ⟨fun f ⟨p, vs, e, n, r⟩ => ⟨p, vs, e, f p n, r⟩⟩

def Out {β α : Type} (Γ : Gc) (W : WX) (σ : L2.St) (Rl : Rel β α) (φ : List Addr) (ρ : Rho) (H : Hp) (Q : β → Hp → Prop) : R α → Prop
  | .ok a ρ' M' => ∀ φ' H' b, In Γ φ' ρ' M' σ H' → Mono φ ρ σ H φ' ρ' σ H' → Rl H φ' ρ' σ H' b a → Q b H'
  | .exc n t ρ' M' => ∀ φ' H' x v c, In Γ φ' ρ' M' σ H' → Mono φ ρ σ H φ' ρ' σ H' → Γ.mg n = some (.ref c) → H' x = some (.xd [(("thing" : Str), v)]) → At Γ φ' H' v t → W (.ref c) (some x) σ H'
  | .stuck => False
def tX {β α : Type} (Γ : Gc) (W : WX) (Rl : Rel β α) (F : E α) : L2.St → Hp → (β → Hp → Prop) → Prop := fun σ H Q => ∃ φ ρ M, In Γ φ ρ M σ H ∧ Out Γ W σ Rl φ ρ H Q (F ρ M)
abbrev tE (Γ : Gc) (W : WX) (F : E D) : TE := tX Γ W (RD Γ) F
abbrev tB' (Γ : Gc) (W : WX) (F : E Bool) : TT := tX Γ W RB F
abbrev tA (Γ : Gc) (W : WX) (F : E (List D)) : TA := tX Γ W (RDs Γ) F
abbrev tF (Γ : Gc) (W : WX) (F : E (List D)) : TE := tX Γ W (RF Γ) F
abbrev tSq (Γ : Gc) (W : WX) (F : E (List D)) : TE := tX Γ W (RS Γ) F
section
variable {Γ : Gc} {W : WX} {σ : L2.St} {φ φ1 : List Addr} {ρ ρ1 : Rho} {M M1 : Mem} {H H1 H' : Hp} {α β γ δ : Type}
theorem Out.from {Rl : Rel β α} [RelOk Rl] {Q : β → Hp → Prop} {r : R α} (m : Mono φ ρ σ H φ1 ρ1 σ H1) (h : Out Γ W σ Rl φ ρ H Q r) : Out Γ W σ Rl φ1 ρ1 H1 Q r := by
  cases r with
  | ok a ρ' M' => exact fun φ' H' b I' m' r' => h φ' H' b I' (m.trans m') (RelOk.up (fun p => m.back) r')
  | exc n t ρ' M' => exact fun φ' H' x v c I' m' hc hx ht => h φ' H' x v c I' (m.trans m') hc hx ht
  | stuck => exact h
theorem tX.bind {Rl : Rel β α} {Rl2 : Rel δ γ} [RelOk Rl2] {F : E α} {G : α → E γ} {Q : δ → Hp → Prop} {Q' : β → Hp → Prop} (I : In Γ φ ρ M σ H) (h : Out Γ W σ Rl2 φ ρ H Q (eBind F G ρ M))
    (k : ∀ φ1 ρ1 M1 H1 b a, In Γ φ1 ρ1 M1 σ H1 → Mono φ ρ σ H φ1 ρ1 σ H1 → Rl H φ1 ρ1 σ H1 b a → Out Γ W σ Rl2 φ1 ρ1 H1 Q (G a ρ1 M1) → Q' b H1) : tX Γ W Rl F σ H Q' := by
  refine ⟨φ, ρ, M, I, ?_⟩
  unfold eBind at h
  cases e : F ρ M with
  | ok a ρ' M' =>
    rw [e] at h
    exact fun φ' H' b I' m' r' => k φ' ρ' M' H' b a I' m' r' (h.from m')
  | exc n t ρ' M' => rw [e] at h; exact h
  | stuck => rw [e] at h; exact h
theorem tX.bind0 {Rl : Rel β α} {Rl2 : Rel δ γ} {F : E α} {G : α → E γ} {Q : δ → Hp → Prop} {Q' : β → Hp → Prop} (I : In Γ φ ρ M σ H) (h : Out Γ W σ Rl2 φ ρ H Q (eBind F G ρ M))
    (k : ∀ φ1 ρ1 M1 H1 b a, In Γ φ1 ρ1 M1 σ H1 → Mono φ ρ σ H φ1 ρ1 σ H1 → Rl H φ1 ρ1 σ H1 b a → Out Γ W σ Rl2 φ ρ H Q (G a ρ1 M1) → Q' b H1) : tX Γ W Rl F σ H Q' := by
  refine ⟨φ, ρ, M, I, ?_⟩
  unfold eBind at h
  cases e : F ρ M with
  | ok a ρ' M' =>
    rw [e] at h
    exact fun φ' H' b I' m' r' => k φ' ρ' M' H' b a I' m' r' h
  | exc n t ρ' M' => rw [e] at h; exact h
  | stuck => rw [e] at h; exact h
theorem Out.now {Rl : Rel β α} {Q : β → Hp → Prop} {a : α} {b : β} (h : Out Γ W σ Rl φ ρ H Q (.ok a ρ M)) (I : In Γ φ ρ M σ H) (r : Rl H φ ρ σ H b a) : Q b H := h φ H b I (Mono.refl _ _ _ _) r
/-- a new object laid -/
theorem Out.laid {Rl : Rel β α} {Q : β → Hp → Prop} {a : α} {b : β} {p : Addr} {o : HO} (h : Out Γ W σ Rl φ ρ H Q (.ok a ρ M)) (I : In Γ φ ρ M σ H) (hp : H p = none) (r : Rl H φ ρ σ (upd H p o) b a) : Q b (upd H p o) :=
  h φ _ b (I.new hp) (Mono.new hp) r
theorem pers_new {p : Addr} {o : HO} (h : H p = none) : Pers H (upd H p o) := ⟨fun q xs e => by rw [upd_ne (ne_of_none e h)]; exact e, fun q _ _ e => by rw [upd_ne (ne_of_none e h)]; exact e⟩
end

section
variable {X : Cx}
theorem PEimp {e : Expr} {t t' : TE} (h : PE X e t) (i : ∀ σ H Q, t' σ H Q → t σ H Q) : PE X e t' := ⟨fun pins s σ H Q I q => h.run pins s σ H Q I (i σ H Q q)⟩
theorem PTimp {e : Expr} {t t' : TT} (h : PT X e t) (i : ∀ σ H Q, t' σ H Q → t σ H Q) : PT X e t' := ⟨fun pins s σ H Q I q => h.run pins s σ H Q I (i σ H Q q)⟩
theorem PWimp {e : Expr} {t t' : TT} (h : PW X e t) (i : ∀ σ H Q, t' σ H Q → t σ H Q) : PW X e t' := ⟨fun w pins s σ H Q I q => h.run w pins s σ H Q I (i σ H Q q)⟩
theorem PAimp {es : List Expr} {t t' : TA} (h : PA X es t) (i : ∀ σ H Q, t' σ H Q → t σ H Q) : PA X es t' := ⟨fun pos pins s σ H Q I q => h.run pos pins s σ H Q I (i σ H Q q)⟩
theorem PTsimp {es : List Expr} {t t' : TT} (h : PTs X es t) (i : ∀ σ H Q, t' σ H Q → t σ H Q) : PTs X es t' := ⟨fun pins s σ H Q I q => h.run pins s σ H Q I (i σ H Q q)⟩
theorem PIimp {tg e : Expr} {t t' : TI} (h : PI X tg e t) (i : ∀ σ H Q, t' σ H Q → t σ H Q) : PI X tg e t' := ⟨fun pins s σ H Q I q => h.run pins s σ H Q I (i σ H Q q)⟩
theorem PSimp {st : Stmt} {t t' : TS} (h : PS X st t) (i : ∀ D σ H, t' D σ H → t D σ H) : PS X st t' := ⟨fun pins s σ H D I q => h.run pins s σ H D I (i D σ H q)⟩
theorem PSsimp {st : List Stmt} {t t' : TS} (h : PSs X st t) (i : ∀ D σ H, t' D σ H → t D σ H) : PSs X st t' := ⟨fun pins s σ H D I q => h.run pins s σ H D I (i D σ H q)⟩
end

/-! ### names, constants -/
def eVar (i : Nat) : E D := fun ρ M => match ρ[i]? with
  | some (.val d) => .ok d ρ M
  | _ => .stuck
section
variable {X : Cx} {Γ : Gc} {W : WX}
theorem e_var (i : Nat) {x : Str} {pos : Pos} (h : PE X (.Name x pos) (tVar i)) : PE X (.Name x pos) (tE Γ W (eVar i)) :=
  PEimp h fun σ H Q ⟨φ, ρ, M, I, h⟩ => by
    unfold eVar at h
    split at h
    · rename_i d e
      obtain ⟨v, s, a⟩ := I.val i d e
      exact ⟨v, s, h.now I a⟩
    · exact h.elim
theorem e_c {e : Expr} {v : V} {d : D} (h : PE X e (tC v)) (a : ∀ φ H, At Γ φ H v d) : PE X e (tE Γ W (eOk d)) :=
  PEimp h fun σ H Q ⟨φ, ρ, M, I, h⟩ => h.now I (a φ H)
theorem e_int {i j pos} : PE X (.Constant (.int i) j pos) (tE Γ W (eOk (.int i))) := e_c pe_int fun _ _ => .int i
theorem e_bl {b j pos} : PE X (.Constant (.bool b) j pos) (tE Γ W (eOk (.bl b))) := e_c pe_bl fun _ _ => .bl b
theorem e_non {j pos} : PE X (.Constant .none j pos) (tE Γ W (eOk .non)) := e_c pe_non fun _ _ => .non
theorem e_str {x j pos} : PE X (.Constant (.str x) j pos) (tE Γ W (eOk (.str x))) := e_c pe_str fun _ _ => .str x

/-! ### argument lists, displays -/
def eNil : E (List D) := eOk []
def eCons (F : E D) (G : E (List D)) : E (List D) := eBind F fun d => eBind G fun ds => eOk (d :: ds)
theorem a_nil : PA X [] (tA Γ W eNil) := PAimp pa_nil fun σ H Q ⟨φ, ρ, M, I, h⟩ => h.now I .nil
theorem a_cons {e : Expr} {es : List Expr} {F : E D} {G : E (List D)} (ha : PE X e (tE Γ W F)) (hr : PA X es (tA Γ W G)) (hs : starEach (e :: es) X.env = (false, eval e X.env) :: starEach es X.env := by rfl) : PA X (e :: es) (tA Γ W (eCons F G)) :=
  PAimp (pa_cons ha hr hs) fun σ H Q ⟨φ, ρ, M, I, h⟩ => tX.bind I h fun φ1 ρ1 M1 H1 v d I1 m1 a1 h1 => tX.bind I1 h1 fun φ2 ρ2 M2 H2 vs ds I2 m2 a2 h2 => h2.now I2 (.cons (a1.mono m2.pre m2.pers) a2)
end
end Dn
-- DnExpr
/-! Dn: operators, comparisons, truth, tuples and lists written. -/
namespace Dn
open PySem L2

def optE (o : Option D) : E D := match o with
  | some d => eOk d
  | none => eStuck
/-- an operation on values that tells a plain one -/
def OpD (Γ : Gc) (r : R2) (g : D → D → Option D) : Prop :=
  ∀ (φ : List Addr) (ρ : Rho) (M : Mem) (σ : L2.St) (H : Hp) (x y : V) (d e z : D) (Q : VK), In Γ φ ρ M σ H → At Γ φ H x d → At Γ φ H y e → g d e = some z →
    (∀ v, At Γ φ H v z → Q v H) → (∀ p o v, H p = none → At Γ φ (upd H p o) v z → Q v (upd H p o)) → r x y H Q
def orG (g g' : D → D → Option D) (d e : D) : Option D := match g d e with
  | some z => some z
  | none => g' d e
theorem OpD.or {Γ : Gc} {r r' : R2} {g g' : D → D → Option D} (h : OpD Γ r g) (h' : OpD Γ r' g') : OpD Γ (fun x y H Q => r x y H Q ∨ r' x y H Q) (orG g g') := fun φ ρ M σ H x y d e z Q I a b q k1 k2 => by
  unfold orG at q
  cases u : g d e with
  | some z' =>
    rw [u] at q
    exact .inl (h φ ρ M σ H x y d e z Q I a b (u.trans q) k1 k2)
  | none => rw [u] at q; exact .inr (h' φ ρ M σ H x y d e z Q I a b q k1 k2)
def eOp (g : D → D → Option D) (F G : E D) : E D := eBind F fun a => eBind G fun b => optE (g a b)
section
variable {X : Cx} {Γ : Gc} {W : WX} {a b c : Expr} {F G G2 : E D} {pos : Pos}
theorem Out.opt {σ : L2.St} {φ : List Addr} {ρ : Rho} {M : Mem} {H : Hp} {o : Option D} {Q : VK} (h : Out Γ W σ (RD Γ) φ ρ H Q (optE o ρ M)) : ∃ z, o = some z ∧ Out Γ W σ (RD Γ) φ ρ H Q (.ok z ρ M) := by
  cases o with
  | none => exact h.elim
  | some z => exact ⟨z, rfl, h⟩
theorem op_read {r : R2} {g : D → D → Option D} (hd : OpD Γ r g) {ta tb : TE} {σ : L2.St} {H : Hp} {Q : VK} (ea : ta = tE Γ W F) (eb : tb = tE Γ W G) (q : tE Γ W (eOp g F G) σ H Q) : tOp r ta tb σ H Q := by
  subst ea eb
  obtain ⟨φ, ρ, M, I, h⟩ := q
  refine tX.bind I h fun φ1 ρ1 M1 H1 x d I1 m1 a1 h1 => tX.bind I1 h1 fun φ2 ρ2 M2 H2 y e I2 m2 a2 h2 => ?_
  obtain ⟨z, ez, h3⟩ := h2.opt
  exact hd φ2 ρ2 M2 σ H2 x y d e z Q I2 (a1.mono m2.pre m2.pers) a2 ez (fun v a => h3.now I2 a) fun p o v hp a => h3.laid I2 hp a
theorem e_op {op : Operator} {r : R2} {g : D → D → Option D} (ho : OpR X (binaryOp op) r) (hd : OpD Γ r g) (ha : PE X a (tE Γ W F)) (hb : PE X b (tE Γ W G)) : PE X (.BinOp a op b pos) (tE Γ W (eOp g F G)) :=
  PEimp (pe_op ho ha hb) fun σ H Q q => op_read hd rfl rfl q
theorem e_cmp {op : CmpOp} {r : R2} {g : D → D → Option D} (ho : OpR X (compareOp op) r) (hd : OpD Γ r g) (ha : PE X a (tE Γ W F)) (hb : PE X b (tE Γ W G)) (hm : behindInMarks op b = false) : PE X (.Compare a [op] [b] pos) (tE Γ W (eOp g F G)) :=
  PEimp (pe_cmpR ho ha hb hm) fun σ H Q q => op_read hd rfl rfl q
/-- a bool as a test -/
def isB : D → Option Bool
  | .bl b => some b
  | _ => none
def optB (o : Option Bool) : E Bool := match o with
  | some d => eOk d
  | none => eStuck
def eB (F : E D) : E Bool := eBind F fun d => optB (isB d)
theorem test_read {t : TE} (i : ∀ σ H Q, tE Γ W F σ H Q → t σ H Q) {σ : L2.St} {H : Hp} {Q : Bool → Hp → Prop} (q : tB' Γ W (eB F) σ H Q) : tTest t σ H Q := by
  obtain ⟨φ, ρ, M, I, h⟩ := q
  refine i _ _ _ (tX.bind I h fun φ1 ρ1 M1 H1 x d I1 m1 a1 h1 => ?_)
  cases d with
  | bl k =>
    cases a1
    exact ⟨k, rfl, h1.now I1 rfl⟩
  | _ => exact h1.elim
theorem b_cmp {op : CmpOp} {r : R2} {g : D → D → Option D} (ho : OpR X (compareOp op) r) (hd : OpD Γ r g) (ha : PE X a (tE Γ W F)) (hb : PE X b (tE Γ W G)) (hm : behindInMarks op b = false) : PT X (.Compare a [op] [b] pos) (tB' Γ W (eB (eOp g F G))) :=
  PTimp (pt_cmpR ho ha hb hm) fun σ H Q q => test_read (fun σ H Q q => op_read hd rfl rfl q) q
/-- a < b < c -/
def eChain (g g' : D → D → Option D) (F G G2 : E D) : E D := eBind F fun a => eBind G fun b => eBind (optE (g a b)) fun k => match k with
  | .bl true => eBind G2 fun c => optE (g' b c)
  | .bl false => eOk (.bl false)
  | _ => eStuck
theorem chain_read {r r' : R2} {g g' : D → D → Option D} (hd : OpD Γ r g) (hd' : OpD Γ r' g') {σ : L2.St} {H : Hp} {Q : VK} (q : tE Γ W (eChain g g' F G G2) σ H Q) : tChain r r' (tE Γ W F) (tE Γ W G) (tE Γ W G2) σ H Q := by
  obtain ⟨φ, ρ, M, I, h⟩ := q
  refine tX.bind I h fun φ1 ρ1 M1 H1 x d I1 m1 a1 h1 => tX.bind I1 h1 fun φ2 ρ2 M2 H2 y e I2 m2 a2 h2 => ?_
  cases u : g d e with
  | none => rw [u] at h2; exact h2.elim
  | some z =>
    rw [u] at h2
    have fin : ∀ H3, In Γ φ2 ρ2 M2 σ H3 → Mono φ2 ρ2 σ H2 φ2 ρ2 σ H3 → ∀ v, At Γ φ2 H3 v z → ∃ k, v = .bl k ∧ (if k = true then tE Γ W G2 σ H3 (fun w' H4 => r' y w' H4 Q) else Q (.bl false) H3) := by
      intro H3 I3 m3 v a3
      cases z with
      | bl k =>
        cases a3
        refine ⟨k, rfl, ?_⟩
        cases k with
        | true =>
          rw [if_pos rfl]
          have h3 := h2.from m3
          refine tX.bind I3 h3 fun φ4 ρ4 M4 H4 w f I4 m4 a4 h4 => ?_
          obtain ⟨z', ez, h5⟩ := h4.opt
          exact hd' φ4 ρ4 M4 σ H4 y w e f z' Q I4 (a2.mono (m3.trans m4).pre (m3.trans m4).pers) a4 ez (fun v a => h5.now I4 a) fun p o v hp a => h5.laid I4 hp a
        | false =>
          rw [if_neg Bool.false_ne_true]
          exact (h2.from m3).now I3 (.bl false)
      | _ => exact (h2 : Out Γ W σ (RD Γ) φ2 ρ2 H2 Q .stuck).elim
    exact hd φ2 ρ2 M2 σ H2 x y d e z _ I2 (a1.mono m2.pre m2.pers) a2 u (fun v a => fin H2 I2 (Mono.refl _ _ _ _) v a) fun p o v hp a => fin _ (I2.new hp) (Mono.new hp) v a
theorem e_chain {op op' : CmpOp} {r r' : R2} {g g' : D → D → Option D} (ho : OpR X (compareOp op) r) (hd : OpD Γ r g) (ho' : OpR X (compareOp op') r') (hd' : OpD Γ r' g') (ha : PE X a (tE Γ W F)) (hb : PE X b (tE Γ W G)) (hc : PE X c (tE Γ W G2))
    (hm : lastMarks [op, op'] [b, c] = false := by with_unfolding_all rfl) : PE X (.Compare a [op, op'] [b, c] pos) (tE Γ W (eChain g g' F G G2)) :=
  PEimp (pe_chain ho ho' ha hb hc hm) fun σ H Q q => chain_read hd hd' q
theorem b_chain {op op' : CmpOp} {r r' : R2} {g g' : D → D → Option D} (ho : OpR X (compareOp op) r) (hd : OpD Γ r g) (ho' : OpR X (compareOp op') r') (hd' : OpD Γ r' g') (ha : PE X a (tE Γ W F)) (hb : PE X b (tE Γ W G)) (hc : PE X c (tE Γ W G2))
    (hm : lastMarks [op, op'] [b, c] = false := by with_unfolding_all rfl) : PT X (.Compare a [op, op'] [b, c] pos) (tB' Γ W (eB (eChain g g' F G G2))) :=
  PTimp (pt_chain ho ho' ha hb hc hm) fun σ H Q q => test_read (fun σ H Q q => chain_read hd hd' q) q

/-! ### truth -/
def truth : D → Option Bool
  | .non => some false
  | .bl b => some b
  | .int i => some (i != 0)
  | .str x => if x.length ≤ sizeLine then some ((x.length : Int) != 0) else none
  | .tup ds => some (!ds.isEmpty)
  | .lst ds => some (!ds.isEmpty)
  | _ => none
theorem isEmpty_ats {φ : List Addr} {H : Hp} {vs : List V} {ds : List D} (h : Ats Γ φ H vs ds) : (!vs.isEmpty) = !ds.isEmpty := by
  cases h <;> rfl
theorem truth_at {φ : List Addr} {H : Hp} {v : V} {d : D} {k : Bool} (a : At Γ φ H v d) (h : truth d = some k) : TruV Γ.K v H k := by
  cases a with
  | non => exact (Option.some.inj h).symm
  | bl b => exact (Option.some.inj h).symm
  | int i => exact (Option.some.inj h).symm
  | str x =>
    simp only [truth] at h
    by_cases z : x.length ≤ sizeLine
    · rw [if_pos z] at h
      exact ⟨z, (Option.some.inj h).symm⟩
    · rw [if_neg z] at h; cases h
  | tup s z r => exact .inr (.inl ⟨_, s, by rw [isEmpty_ats r]; exact (Option.some.inj h).symm⟩)
  | lst s z r => exact .inl ⟨_, s.seq, by rw [isEmpty_ats r]; exact (Option.some.inj h).symm⟩
  | dct _ _ _ => cases h
  | ref _ => cases h
  | fn _ => cases h
def eT (F : E D) : E Bool := eBind F fun d => optB (truth d)
/-- an expression that is no comparison, no and, or, not, as a test -/
theorem b_val (ha : PE X a (tE Γ W F)) (hK : X.K = Γ.K := by rfl) (he : ∀ whole, isTrue a X.env whole = (do let v ← whole; standAt a.pos; holding [v] (truthy v)) := by intro _; rfl) : PT X a (tB' Γ W (eT F)) :=
  PTimp (pt_truth ha he) fun σ H Q ⟨φ, ρ, M, I, h⟩ => tX.bind I h fun φ1 ρ1 M1 H1 x d I1 m1 a1 h1 => by
    cases u : truth d with
    | none => rw [u] at h1; exact h1.elim
    | some k =>
      rw [u] at h1
      refine ⟨k, ?_, h1.now I1 rfl⟩
      rw [hK]
      exact truth_at a1 u
def bAnd (F G : E Bool) : E Bool := eBind F fun b => if b = true then G else eOk false
def bOr (F G : E Bool) : E Bool := eBind F fun b => if b = true then eOk true else G
def bNot (F : E Bool) : E Bool := eBind F fun b => eOk (!b)
section
variable {T U : E Bool} {rest : List Expr}
theorem w_and1 (ha : PT X a (tB' Γ W T)) : PW X (.BoolOp .And [a] pos) (tB' Γ W T) := pw_and1 ha
theorem w_or1 (ha : PT X a (tB' Γ W T)) : PW X (.BoolOp .Or [a] pos) (tB' Γ W T) := pw_or1 ha
theorem w_and (ha : PT X a (tB' Γ W T)) (hb : PW X (.BoolOp .And (b :: rest) pos) (tB' Γ W U)) : PW X (.BoolOp .And (a :: b :: rest) pos) (tB' Γ W (bAnd T U)) :=
  PWimp (pw_and ha hb) fun σ H Q ⟨φ, ρ, M, I, h⟩ => tX.bind I h fun φ1 ρ1 M1 H1 x k I1 m1 e1 h1 => by
    subst e1
    cases x with
    | true => rw [if_pos rfl]; exact ⟨_, _, _, I1, h1⟩
    | false => rw [if_neg Bool.false_ne_true]; exact h1.now I1 rfl
theorem w_or (ha : PT X a (tB' Γ W T)) (hb : PW X (.BoolOp .Or (b :: rest) pos) (tB' Γ W U)) : PW X (.BoolOp .Or (a :: b :: rest) pos) (tB' Γ W (bOr T U)) :=
  PWimp (pw_or ha hb) fun σ H Q ⟨φ, ρ, M, I, h⟩ => tX.bind I h fun φ1 ρ1 M1 H1 x k I1 m1 e1 h1 => by
    subst e1
    cases x with
    | true => rw [if_pos rfl]; exact h1.now I1 rfl
    | false => rw [if_neg Bool.false_ne_true]; exact ⟨_, _, _, I1, h1⟩
theorem b_w {e : Expr} (h : PW X e (tB' Γ W T)) : PT X e (tB' Γ W T) := h.pt
theorem b_not (ha : PT X a (tB' Γ W T)) : PT X (.UnaryOp .Not a pos) (tB' Γ W (bNot T)) :=
  PTimp (pt_not ha) fun σ H Q ⟨φ, ρ, M, I, h⟩ => tX.bind I h fun φ1 ρ1 M1 H1 x k I1 m1 e1 h1 => by
    subst e1
    exact h1.now I1 rfl
/-! ### and, or, not as values, by truth -/
def eAndV (F G : E D) : E D := eBind F fun d => eBind (optB (truth d)) fun k => if k = true then G else eOk d
def eOrV (F G : E D) : E D := eBind F fun d => eBind (optB (truth d)) fun k => if k = true then eOk d else G
def eNotV (F : E D) : E D := eBind F fun d => eBind (optB (truth d)) fun k => eOk (.bl (!k))
theorem tru_read {σ : L2.St} {H : Hp} {d : D} {v : V} {φ : List Addr} {ρ : Rho} {M : Mem} {K : PySem.W.Frag} {S : Bool → E D} {Q : VK} (hK : K = Γ.K) (a : At Γ φ H v d) (h : Out Γ W σ (RD Γ) φ ρ H Q (eBind (optB (truth d)) S ρ M)) :
    ∃ k, TruV K v H k ∧ Out Γ W σ (RD Γ) φ ρ H Q (S k ρ M) := by
  cases u : truth d with
  | none => rw [u] at h; exact h.elim
  | some k => rw [u] at h; exact ⟨k, by rw [hK]; exact truth_at a u, h⟩
theorem e_one {op} (h : PE X a (tE Γ W F)) : PE X (.BoolOp op [a] pos) (tE Γ W F) := pe_one h
theorem e_and (ha : PE X a (tE Γ W F)) (hb : PE X (.BoolOp .And (b :: rest) pos) (tE Γ W G)) (hK : X.K = Γ.K := by rfl) : PE X (.BoolOp .And (a :: b :: rest) pos) (tE Γ W (eAndV F G)) :=
  PEimp (pe_andT ha hb) fun σ H Q ⟨φ, ρ, M, I, h⟩ => tX.bind I h fun φ1 ρ1 M1 H1 x d I1 m1 a1 h1 => by
    obtain ⟨k, e, h2⟩ := tru_read hK a1 h1
    refine ⟨k, e, ?_⟩
    cases k with
    | true => rw [if_pos rfl]; exact ⟨_, _, _, I1, h2⟩
    | false => rw [if_neg Bool.false_ne_true]; exact h2.now I1 a1
theorem e_or (ha : PE X a (tE Γ W F)) (hb : PE X (.BoolOp .Or (b :: rest) pos) (tE Γ W G)) (hK : X.K = Γ.K := by rfl) : PE X (.BoolOp .Or (a :: b :: rest) pos) (tE Γ W (eOrV F G)) :=
  PEimp (pe_orT ha hb) fun σ H Q ⟨φ, ρ, M, I, h⟩ => tX.bind I h fun φ1 ρ1 M1 H1 x d I1 m1 a1 h1 => by
    obtain ⟨k, e, h2⟩ := tru_read hK a1 h1
    refine ⟨k, e, ?_⟩
    cases k with
    | true => rw [if_pos rfl]; exact h2.now I1 a1
    | false => rw [if_neg Bool.false_ne_true]; exact ⟨_, _, _, I1, h2⟩
theorem e_not (ha : PE X a (tE Γ W F)) (hK : X.K = Γ.K := by rfl) : PE X (.UnaryOp .Not a pos) (tE Γ W (eNotV F)) :=
  PEimp (pe_notT ha) fun σ H Q ⟨φ, ρ, M, I, h⟩ => tX.bind I h fun φ1 ρ1 M1 H1 x d I1 m1 a1 h1 => by
    obtain ⟨k, e, h2⟩ := tru_read hK a1 h1
    exact ⟨k, e, h2.now I1 (.bl _)⟩
def eIf (T : E Bool) (F G : E D) : E D := eBind T fun b => if b = true then F else G
theorem e_ifExp (hc : PT X c (tB' Γ W T)) (ha : PE X a (tE Γ W F)) (hb : PE X b (tE Γ W G)) : PE X (.IfExp c a b pos) (tE Γ W (eIf T F G)) :=
  PEimp (pe_ifExp hc ha hb) fun σ H Q ⟨φ, ρ, M, I, h⟩ => tX.bind I h fun φ1 ρ1 M1 H1 x k I1 m1 e1 h1 => by
    subst e1
    cases x with
    | true => rw [if_pos rfl]; exact ⟨_, _, _, I1, h1⟩
    | false => rw [if_neg Bool.false_ne_true]; exact ⟨_, _, _, I1, h1⟩
end
end
end Dn
-- DnOps
/-! Dn: the operations by themselves. -/
namespace Dn
open PySem L2

/-! ### ints, texts -/
def gII (f : Int → Int → D) : D → D → Option D
  | .int i, .int j => some (f i j)
  | _, _ => none
def gIIc (c : Int → Int → Prop) [∀ i j, Decidable (c i j)] (f : Int → Int → D) : D → D → Option D
  | .int i, .int j => if c i j then some (f i j) else none
  | _, _ => none
section
variable {X : Cx} {Γ : Gc}
theorem od_I0 {f : Int → Int → V} {f' : Int → Int → D} (h : ∀ φ H i j, At Γ φ H (f i j) (f' i j)) : OpD Γ (rI0 f) (gII f') := by
  intro φ ρ M σ H x y d e z Q I a b g k1 k2
  cases a <;> cases b <;> first | (cases g; done) | skip
  rename_i i j
  cases g
  exact ⟨i, j, rfl, rfl, k1 _ (h _ _ i j)⟩
theorem od_I {c : Int → Int → Prop} [∀ i j, Decidable (c i j)] {f : Int → Int → V} {f' : Int → Int → D} (h : ∀ φ H i j, At Γ φ H (f i j) (f' i j)) : OpD Γ (rI c f) (gIIc c f') := by
  intro φ ρ M σ H x y d e z Q I a b g k1 k2
  cases a <;> cases b <;> first | (cases g; done) | skip
  rename_i i j
  simp only [gIIc] at g
  split at g
  · rename_i hc
    cases g
    exact ⟨i, j, rfl, rfl, hc, k1 _ (h _ _ i j)⟩
  · cases g
instance : ∀ i j, Decidable (CMul i j) := fun i j => by unfold CMul; infer_instance
instance : ∀ i j, Decidable (CDivN i j) := fun i j => by unfold CDivN; infer_instance
instance : ∀ i j, Decidable (CPow i j) := fun i j => by unfold CPow; infer_instance
def gAddI := gII fun i j => .int (i + j)
def gSubI := gII fun i j => .int (i - j)
def gMulI := gIIc CMul fun i j => .int (i * j)
def gFdiv := gIIc CDivN fun i j => .int (i.fdiv j)
def gMod := gIIc (fun _ j => j ≠ 0) fun i j => .int (i.fmod j)
def gPow := gIIc CPow fun i j => .int (i ^ j.toNat)
def gLt := gII fun i j => .bl (decide (i < j))
def gLe := gII fun i j => .bl (decide (i ≤ j))
def gGt := gII fun i j => .bl (decide (j < i))
def gGe := gII fun i j => .bl (decide (j ≤ i))
theorem od_sub : OpD Γ (rI0 fun i j => .int (i - j)) gSubI := od_I0 fun _ _ _ _ => .int _
theorem od_addI : OpD Γ (rI0 fun i j => .int (i + j)) gAddI := od_I0 fun _ _ _ _ => .int _
theorem od_fdiv : OpD Γ (rI CDivN fun i j => .int (i.fdiv j)) gFdiv := od_I fun _ _ _ _ => .int _
theorem od_mod : OpD Γ (rI (fun _ j => j ≠ 0) fun i j => .int (i.fmod j)) gMod := od_I fun _ _ _ _ => .int _
theorem od_pow : OpD Γ (rI CPow fun i j => .int (i ^ j.toNat)) gPow := od_I fun _ _ _ _ => .int _
theorem od_lt : OpD Γ (rI0 fun i j => .bl (decide (i < j))) gLt := od_I0 fun _ _ _ _ => .bl _
theorem od_le : OpD Γ (rI0 fun i j => .bl (decide (i ≤ j))) gLe := od_I0 fun _ _ _ _ => .bl _
theorem od_gt : OpD Γ (rI0 fun i j => .bl (decide (j < i))) gGt := od_I0 fun _ _ _ _ => .bl _
theorem od_ge : OpD Γ (rI0 fun i j => .bl (decide (j ≤ i))) gGe := od_I0 fun _ _ _ _ => .bl _

/-! ### + of texts, tuples, lists -/
def gCat : D → D → Option D
  | .str x, .str y => if x.length + y.length ≤ sizeLine then some (.str (x ++ y)) else none
  | .tup a, .tup b => if a.length + b.length ≤ sizeLine then some (.tup (a ++ b)) else none
  | _, _ => none
def rCatS : R2 := fun x y H Q => ∃ i j, x = .str i ∧ y = .str j ∧ i.length + j.length ≤ sizeLine ∧ Q (.str (i ++ j)) H
theorem od_cat (hK : X.K = Γ.K) : OpD Γ (fun x y H Q => rCatS x y H Q ∨ rCatA X.K x y H Q) gCat := by
  intro φ ρ M σ H x y d e z Q I a b g k1 k2
  cases a <;> cases b <;> first | (cases g; done) | skip
  · rename_i i j
    simp only [gCat] at g
    split at g
    · rename_i hc
      cases g
      exact .inl ⟨i, j, rfl, rfl, hc, k1 _ (.str _)⟩
    · cases g
  · rename_i p vs ds s1 z1 r1 q ws es s2 z2 r2
    simp only [gCat] at g
    split at g
    · rename_i hc
      cases g
      rw [hK]
      have hv : vs.length + ws.length ≤ sizeLine := by rw [r1.length, r2.length]; exact hc
      refine .inr ⟨p, q, vs, ws, rfl, rfl, s1, s2, hv, fun e => ?_, fun _ e => ?_, fun n1 n2 t ht => ?_⟩
      · subst e; cases r1; exact k1 _ (.tup s2 z2 r2)
      · subst e; cases r2; exact k1 _ (by rw [List.append_nil]; exact .tup s1 z1 r1)
      · have ps := pers_new (o := .tup (vs ++ ws)) ht
        exact k2 t _ _ ht (.tup (SqT.of upd_same) (by rw [List.length_append]; exact hv) ((r1.append r2).mono (Pre.refl _) ps))
    · cases g
def gAdd := orG gAddI gCat
theorem op_addA : OpR X (binaryOp .Add) (fun x y H Q => (rI0 fun i j => .int (i + j)) x y H Q ∨ (rCatS x y H Q ∨ rCatA X.K x y H Q)) := op_add.or ((show OpR X (binaryOp .Add) rCatS from op_add_str).or op_catA)
theorem od_add (hK : X.K = Γ.K) : OpD Γ (fun x y H Q => (rI0 fun i j => .int (i + j)) x y H Q ∨ (rCatS x y H Q ∨ rCatA X.K x y H Q)) gAdd := od_addI.or (od_cat hK)
section
variable {W : WX} {a b c : Expr} {F G G2 : E D} {pos : Pos}
theorem e_add (ha : PE X a (tE Γ W F)) (hb : PE X b (tE Γ W G)) (hK : X.K = Γ.K := by rfl) : PE X (.BinOp a .Add b pos) (tE Γ W (eOp gAdd F G)) := e_op op_addA (od_add hK) ha hb
theorem e_sub (ha : PE X a (tE Γ W F)) (hb : PE X b (tE Γ W G)) : PE X (.BinOp a .Sub b pos) (tE Γ W (eOp gSubI F G)) := e_op op_sub od_sub ha hb
/-- tuple times int -/
def gRepT : D → D → Option D
  | .tup a, .int k => if a.length ≤ 1000 ∧ k ≤ 1000 then some (.tup (List.replicate k.toNat a).flatten) else none
  | _, _ => none
theorem e_mul (ha : PE X a (tE Γ W F)) (hb : PE X b (tE Γ W G)) : PE X (.BinOp a .Mult b pos) (tE Γ W (eOp gMulI F G)) := e_op op_mul (od_I fun _ _ _ _ => .int _) ha hb
theorem e_fdiv (ha : PE X a (tE Γ W F)) (hb : PE X b (tE Γ W G)) : PE X (.BinOp a .FloorDiv b pos) (tE Γ W (eOp gFdiv F G)) := e_op op_fdivN od_fdiv ha hb
theorem e_mod (ha : PE X a (tE Γ W F)) (hb : PE X b (tE Γ W G)) : PE X (.BinOp a .Mod b pos) (tE Γ W (eOp gMod F G)) := e_op op_modN od_mod ha hb
theorem e_pow (ha : PE X a (tE Γ W F)) (hb : PE X b (tE Γ W G)) : PE X (.BinOp a .Pow b pos) (tE Γ W (eOp gPow F G)) := e_op op_pow od_pow ha hb
def gNeg : D → Option D
  | .int i => some (.int (-i))
  | _ => none
def eUn (g : D → Option D) (F : E D) : E D := eBind F fun a => optE (g a)
theorem e_neg (ha : PE X a (tE Γ W F)) : PE X (.UnaryOp .USub a pos) (tE Γ W (eUn gNeg F)) :=
  PEimp (pe_un un_neg ha) fun σ H Q ⟨φ, ρ, M, I, h⟩ => tX.bind I h fun φ1 ρ1 M1 H1 x d I1 m1 a1 h1 => by
    cases a1 with
    | int i => exact ⟨i, rfl, h1.now I1 (.int _)⟩
    | _ => exact h1.elim

/-! ### == of data -/
mutual
def toPy : D → Option PyData
  | .non => some .none
  | .bl b => some (.bool b)
  | .int i => some (.int i)
  | .str x => some (.str x)
  | .tup ds => (toPys ds).map .tuple
  | .lst ds => (toPys ds).map .list
  | _ => none
def toPys : List D → Option (List PyData)
  | [] => some []
  | d :: ds => match toPy d, toPys ds with
    | some x, some xs => some (x :: xs)
    | _, _ => none
end
mutual
theorem at_dp {φ : List Addr} {H : Hp} : ∀ {d : D} {v : V} {x : PyData}, At Γ φ H v d → toPy d = some x → Dp Γ.K H v x
  | .non, _, _, a, e => by cases a; simp only [toPy] at e; cases e; exact .non
  | .bl b, _, _, a, e => by cases a; simp only [toPy] at e; cases e; exact .bl b
  | .int i, _, _, a, e => by cases a; simp only [toPy] at e; cases e; exact .int i
  | .str x, _, _, a, e => by cases a; simp only [toPy] at e; cases e; exact .str x
  | .tup ds, _, _, a, e => by
    cases a with
    | tup s z r =>
      simp only [toPy] at e
      obtain ⟨xs, e1, e2⟩ := Option.map_eq_some_iff.mp e
      subst e2
      exact .tup s (ats_dp r e1)
  | .lst ds, _, _, a, e => by
    cases a with
    | lst s z r =>
      simp only [toPy] at e
      obtain ⟨xs, e1, e2⟩ := Option.map_eq_some_iff.mp e
      subst e2
      exact .lst s.seq (ats_dp r e1)
  | .dct _ _, _, _, _, e => by simp [toPy] at e
  | .ref _, _, _, _, e => by simp [toPy] at e
  | .fn _, _, _, _, e => by simp [toPy] at e
theorem ats_dp {φ : List Addr} {H : Hp} : ∀ {ds : List D} {vs : List V} {xs : List PyData}, Ats Γ φ H vs ds → toPys ds = some xs → DpAll Γ.K H vs xs
  | [], _, _, a, e => by cases a; simp only [toPys] at e; cases e; exact .nil
  | d :: ds, _, _, a, e => by
    cases a with
    | cons h r =>
      simp only [toPys] at e
      split at e
      · rename_i x xs e1 e2
        cases e
        exact .cons (at_dp h e1) (ats_dp r e2)
      · cases e
end
mutual
theorem toPy_plain : ∀ {d : D} {x : PyData}, toPy d = some x → x.plain = true
  | .non, _, e => by simp only [toPy] at e; cases e; rfl
  | .bl _, _, e => by simp only [toPy] at e; cases e; rfl
  | .int _, _, e => by simp only [toPy] at e; cases e; rfl
  | .str _, _, e => by simp only [toPy] at e; cases e; rfl
  | .tup ds, _, e => by
    simp only [toPy] at e
    obtain ⟨xs, e1, e2⟩ := Option.map_eq_some_iff.mp e
    subst e2
    simp only [PyData.plain]
    exact toPys_plain e1
  | .lst ds, _, e => by
    simp only [toPy] at e
    obtain ⟨xs, e1, e2⟩ := Option.map_eq_some_iff.mp e
    subst e2
    simp only [PyData.plain]
    exact toPys_plain e1
  | .dct _ _, _, e => by simp [toPy] at e
  | .ref _, _, e => by simp [toPy] at e
  | .fn _, _, e => by simp [toPy] at e
theorem toPys_plain : ∀ {ds : List D} {xs : List PyData}, toPys ds = some xs → PyData.plainAll xs = true
  | [], _, e => by simp only [toPys] at e; cases e; rfl
  | d :: ds, _, e => by
    simp only [toPys] at e
    split at e
    · rename_i x xs e1 e2
      cases e
      simp only [PyData.plainAll, Bool.and_eq_true]
      exact ⟨toPy_plain e1, toPys_plain e2⟩
    · cases e
end
/-- are they equal (data, one of them at most 60 deep) -/
def eqvD (d e : D) : Option Bool := match toPy d, toPy e with
  | some x, some y => if min x.depth y.depth ≤ 60 then some (PyData.eqv x y) else none
  | _, _ => none
def gEq (d e : D) : Option D := (eqvD d e).map .bl
def gNe (d e : D) : Option D := (eqvD d e).map fun b => .bl (!b)
theorem eqvD_some {d e : D} {b : Bool} (h : eqvD d e = some b) : ∃ x y, toPy d = some x ∧ toPy e = some y ∧ min x.depth y.depth ≤ 60 ∧ b = PyData.eqv x y := by
  unfold eqvD at h
  split at h
  · rename_i x y h1 h2
    split at h
    · rename_i z; cases h; exact ⟨x, y, h1, h2, z, rfl⟩
    · cases h
  · cases h
def rEqP (K : PySem.W.Frag) (neg : Bool) : R2 := fun x y H Q => ∃ d e : PyData, Dp K H x d ∧ Dp K H y e ∧ d.plain = true ∧ e.plain = true ∧ min d.depth e.depth ≤ 60 ∧ Q (.bl (if neg then !PyData.eqv d e else PyData.eqv d e)) H
theorem op_eqP (hu : X.A.units + 65 < cLine) : OpR X (compareOp .Eq) (rEqP X.K false) := by
  intro pins s σ H x y v u Q I rx ry h
  obtain ⟨d, e, hd, he, pd, pe, z, q⟩ := h
  obtain ⟨as, r1⟩ := Dp.reads I d x v hd rx
  obtain ⟨bs, r2⟩ := Dp.reads I e y u he ry
  exact SeqAt.eq_plain r1 r2 pd pe (by omega) ⟨.bl _, H, I, rfl, q⟩
theorem op_neP (hu : X.A.units + 65 < cLine) : OpR X (compareOp .NotEq) (rEqP X.K true) := by
  intro pins s σ H x y v u Q I rx ry h
  obtain ⟨d, e, hd, he, pd, pe, z, q⟩ := h
  obtain ⟨as, r1⟩ := Dp.reads I d x v hd rx
  obtain ⟨bs, r2⟩ := Dp.reads I e y u he ry
  exact SeqAt.ne_plain r1 r2 pd pe (by omega) ⟨.bl _, H, I, rfl, q⟩
theorem od_eq (hK : X.K = Γ.K) : OpD Γ (rEqP X.K false) gEq := by
  intro φ ρ M σ H x y d e z Q I a b g k1 k2
  obtain ⟨k, h, rfl⟩ := Option.map_eq_some_iff.mp g
  obtain ⟨p, q, t1, t2, zz, rfl⟩ := eqvD_some h
  rw [hK]
  exact ⟨p, q, at_dp a t1, at_dp b t2, toPy_plain t1, toPy_plain t2, zz, k1 _ (.bl _)⟩
theorem od_ne (hK : X.K = Γ.K) : OpD Γ (rEqP X.K true) gNe := by
  intro φ ρ M σ H x y d e z Q I a b g k1 k2
  obtain ⟨k, h, rfl⟩ := Option.map_eq_some_iff.mp g
  obtain ⟨p, q, t1, t2, zz, rfl⟩ := eqvD_some h
  rw [hK]
  exact ⟨p, q, at_dp a t1, at_dp b t2, toPy_plain t1, toPy_plain t2, zz, k1 _ (.bl _)⟩
/-- in, not in: data in a list or a tuple -/
def gInS (neg : Bool) (d e : D) : Option D := match toPy d, toPy e with
  | some x, some (.list ys) => if min (PyData.depthAll ys) x.depth ≤ 60 then some (.bl (if neg then !ys.any (fun z => PyData.eqv z x) else ys.any fun z => PyData.eqv z x)) else none
  | some x, some (.tuple ys) => if min (PyData.depthAll ys) x.depth ≤ 60 then some (.bl (if neg then !ys.any (fun z => PyData.eqv z x) else ys.any fun z => PyData.eqv z x)) else none
  | _, _ => none
def rInP (K : PySem.W.Frag) (neg : Bool) : R2 := fun x y H Q => ∃ (d : PyData) (ys : List PyData), Dp K H x d ∧ (Dp K H y (.list ys) ∨ Dp K H y (.tuple ys)) ∧ d.plain = true ∧ PyData.plainAll ys = true ∧ min (PyData.depthAll ys) d.depth ≤ 60 ∧
  Q (.bl (if neg then !ys.any (fun z => PyData.eqv z d) else ys.any fun z => PyData.eqv z d)) H
theorem op_inP (hu : X.A.units + 65 < cLine) : OpR X (compareOp .In) (rInP X.K false) := by
  intro pins s σ H x y v u Q I rx ry h
  obtain ⟨d, ys, hd, he, pd, pe, z, q⟩ := h
  obtain ⟨as, r1⟩ := Dp.reads I d x v hd rx
  rcases he with he | he
  · obtain ⟨bs, r2⟩ := Dp.reads I _ y u he ry
    exact SeqAt.in_list_data r2 r1 pe pd (by omega) ⟨.bl _, H, I, rfl, q⟩
  · obtain ⟨bs, r2⟩ := Dp.reads I _ y u he ry
    exact SeqAt.in_tuple_data r2 r1 pe pd (by omega) ⟨.bl _, H, I, rfl, q⟩
theorem op_ninP (hu : X.A.units + 65 < cLine) : OpR X (compareOp .NotIn) (rInP X.K true) := by
  intro pins s σ H x y v u Q I rx ry h
  obtain ⟨d, ys, hd, he, pd, pe, z, q⟩ := h
  obtain ⟨as, r1⟩ := Dp.reads I d x v hd rx
  rcases he with he | he
  · obtain ⟨bs, r2⟩ := Dp.reads I _ y u he ry
    exact SeqAt.notIn_list_data r2 r1 pe pd (by omega) ⟨.bl _, H, I, rfl, q⟩
  · obtain ⟨bs, r2⟩ := Dp.reads I _ y u he ry
    exact SeqAt.notIn_tuple_data r2 r1 pe pd (by omega) ⟨.bl _, H, I, rfl, q⟩
theorem od_inP {neg : Bool} (hK : X.K = Γ.K) : OpD Γ (rInP X.K neg) (gInS neg) := by
  intro φ ρ M σ H x y d e z Q I a b g k1 k2
  unfold gInS at g
  rw [hK]
  split at g
  · rename_i p ys t1 t2
    split at g
    · rename_i zz
      cases g
      have pl := toPy_plain t2
      simp only [PyData.plain] at pl
      exact ⟨p, ys, at_dp a t1, .inl (at_dp b t2), toPy_plain t1, pl, zz, k1 _ (.bl _)⟩
    · cases g
  · rename_i p ys t1 t2
    split at g
    · rename_i zz
      cases g
      have pl := toPy_plain t2
      simp only [PyData.plain] at pl
      exact ⟨p, ys, at_dp a t1, .inr (at_dp b t2), toPy_plain t1, pl, zz, k1 _ (.bl _)⟩
    · cases g
  · cases g
/-- a text in a text -/
def gInT (neg : Bool) : D → D → Option D
  | .str x, .str y => some (.bl (if neg then !(!(Builtin.Str.occurrences y x 0 y.length 1).isEmpty) else !(Builtin.Str.occurrences y x 0 y.length 1).isEmpty))
  | _, _ => none
def rInT (neg : Bool) : R2 := fun x y H Q => ∃ i j, x = .str i ∧ y = .str j ∧ Q (.bl (if neg then !(!(Builtin.Str.occurrences j i 0 j.length 1).isEmpty) else !(Builtin.Str.occurrences j i 0 j.length 1).isEmpty)) H
theorem od_inT {neg : Bool} : OpD Γ (rInT neg) (gInT neg) := by
  intro φ ρ M σ H x y d e z Q I a b g k1 k2
  cases a <;> cases b <;> first | (cases g; done) | skip
  cases g
  exact ⟨_, _, rfl, rfl, k1 _ (.bl _)⟩
theorem op_inT : OpR X (compareOp .In) (rInT false) := op_in_str
theorem op_ninT : OpR X (compareOp .NotIn) (rInT true) := op_notIn_str
def gIn := orG (gInS false) (gInT false)
def gNin := orG (gInS true) (gInT true)
theorem e_eq (hu : X.A.units + 65 < cLine) (ha : PE X a (tE Γ W F)) (hb : PE X b (tE Γ W G)) (hK : X.K = Γ.K := by rfl) : PE X (.Compare a [.Eq] [b] pos) (tE Γ W (eOp gEq F G)) := e_cmp (op_eqP hu) (od_eq hK) ha hb (nomark _)
theorem b_eq (hu : X.A.units + 65 < cLine) (ha : PE X a (tE Γ W F)) (hb : PE X b (tE Γ W G)) (hK : X.K = Γ.K := by rfl) : PT X (.Compare a [.Eq] [b] pos) (tB' Γ W (eB (eOp gEq F G))) := b_cmp (op_eqP hu) (od_eq hK) ha hb (nomark _)
theorem e_ne (hu : X.A.units + 65 < cLine) (ha : PE X a (tE Γ W F)) (hb : PE X b (tE Γ W G)) (hK : X.K = Γ.K := by rfl) : PE X (.Compare a [.NotEq] [b] pos) (tE Γ W (eOp gNe F G)) := e_cmp (op_neP hu) (od_ne hK) ha hb (nomark _)
theorem b_ne (hu : X.A.units + 65 < cLine) (ha : PE X a (tE Γ W F)) (hb : PE X b (tE Γ W G)) (hK : X.K = Γ.K := by rfl) : PT X (.Compare a [.NotEq] [b] pos) (tB' Γ W (eB (eOp gNe F G))) := b_cmp (op_neP hu) (od_ne hK) ha hb (nomark _)
theorem e_in (hu : X.A.units + 65 < cLine) (ha : PE X a (tE Γ W F)) (hb : PE X b (tE Γ W G)) (hm : behindInMarks .In b = false) (hK : X.K = Γ.K := by rfl) : PE X (.Compare a [.In] [b] pos) (tE Γ W (eOp gIn F G)) := e_cmp ((op_inP hu).or op_inT) ((od_inP hK).or od_inT) ha hb hm
theorem b_in (hu : X.A.units + 65 < cLine) (ha : PE X a (tE Γ W F)) (hb : PE X b (tE Γ W G)) (hm : behindInMarks .In b = false) (hK : X.K = Γ.K := by rfl) : PT X (.Compare a [.In] [b] pos) (tB' Γ W (eB (eOp gIn F G))) := b_cmp ((op_inP hu).or op_inT) ((od_inP hK).or od_inT) ha hb hm
theorem e_nin (hu : X.A.units + 65 < cLine) (ha : PE X a (tE Γ W F)) (hb : PE X b (tE Γ W G)) (hm : behindInMarks .NotIn b = false) (hK : X.K = Γ.K := by rfl) : PE X (.Compare a [.NotIn] [b] pos) (tE Γ W (eOp gNin F G)) := e_cmp ((op_ninP hu).or op_ninT) ((od_inP hK).or od_inT) ha hb hm
theorem b_nin (hu : X.A.units + 65 < cLine) (ha : PE X a (tE Γ W F)) (hb : PE X b (tE Γ W G)) (hm : behindInMarks .NotIn b = false) (hK : X.K = Γ.K := by rfl) : PT X (.Compare a [.NotIn] [b] pos) (tB' Γ W (eB (eOp gNin F G))) := b_cmp ((op_ninP hu).or op_ninT) ((od_inP hK).or od_inT) ha hb hm
/-! ### is None -/
def isNon : D → Bool
  | .non => true
  | _ => false
def gIsN (d e : D) : Option D := if isNon e = true then some (.bl (isNon d)) else none
def gIsNotN (d e : D) : Option D := if isNon e = true then some (.bl (!isNon d)) else none
theorem isNon_at {φ : List Addr} {H : Hp} {v : V} {d : D} (a : At Γ φ H v d) : decide (v = .non) = isNon d := by
  cases a <;> simp [isNon]
theorem od_isN : OpD Γ (fun x y H Q => y = .non ∧ Q (.bl (decide (x = .non))) H) gIsN := by
  intro φ ρ M σ H x y d e z Q I a b g k1 k2
  unfold gIsN at g
  cases b <;> simp [isNon] at g
  subst g
  exact ⟨rfl, by rw [isNon_at a]; exact k1 _ (.bl _)⟩
theorem od_notN : OpD Γ (fun x y H Q => y = .non ∧ Q (.bl (!decide (x = .non))) H) gIsNotN := by
  intro φ ρ M σ H x y d e z Q I a b g k1 k2
  unfold gIsNotN at g
  cases b <;> simp [isNon] at g
  subst g
  exact ⟨rfl, by rw [isNon_at a]; exact k1 _ (.bl _)⟩

end
end
end Dn
-- DnSeq
/-! Dn: lists and tuples: written, read, cut, joined; the built-in functions over them. -/
namespace Dn
open PySem L2
section
variable {X : Cx} {Γ : Gc} {W : WX} {a b c : Expr} {F G G2 : E D} {L L2' : E (List D)} {pos : Pos} {es : List Expr}

/-! ### a new list kept as a value -/
theorem In.freeze {φ : List Addr} {ρ : Rho} {M : Mem} {σ : L2.St} {H : Hp} {p : Addr} {vs : List V} {o : Obj} (I : In Γ φ ρ M σ H) (h : H p = some (.lst vs)) (n : p ∉ φ) (no : ¬ Owned ρ σ p) : In Γ φ ρ M σ (upd H p (.frz o (.lst vs))) := by
  have sf : Soft (H p) := .inl ⟨vs, h⟩
  have ps : Pers H (upd H p (.frz o (.lst vs))) := ⟨fun q xs e => by rw [upd_ne (sf.ne e not_soft_tup)]; exact e, fun q _ _ e => by rw [upd_ne (sf.ne e not_soft_frz)]; exact e⟩
  refine ⟨I.len, fun i d e => ?_, fun i c e => ?_, I.sep, I.rl, I.nd, fun i c e => ?_, Γ.stab _ _ _ (.inr sf) I.j⟩
  · obtain ⟨v, s, a⟩ := I.val i d e
    exact ⟨v, s, a.mono (Pre.refl _) ps⟩
  · obtain ⟨q, s, m, nn⟩ := I.own i c e
    have nq : q ≠ p := by rintro rfl; exact no ⟨i, c, e, s⟩
    exact ⟨q, s, m.move (Pre.refl _) ps fun u e => by rw [upd_ne nq]; exact e, nn⟩
  · obtain ⟨q, s, m⟩ := I.mem i c e
    have nq : q ≠ p := by rintro rfl; exact n (List.mem_of_getElem? s)
    exact ⟨q, s, m.move (Pre.refl _) ps fun u e => by rw [upd_ne nq]; exact e⟩
/-- what was laid since may be written -/
theorem Mono.late {φ φ1 : List Addr} {ρ ρ1 : Rho} {σ σ1 : L2.St} {H H1 : Hp} {p : Addr} {o : HO} (m : Mono φ ρ σ H φ1 ρ1 σ1 H1) (h0 : Em (H p)) (nt : NT o) (hs : ∃ u, H1 p = some u) : Mono φ ρ σ H φ1 ρ1 σ1 (upd H1 p o) where
  pre := m.pre
  fresh := m.fresh
  pers := ⟨fun q xs e => by rw [upd_ne (h0.ne e nt_tup)]; exact m.pers.tup q xs e, fun q a u e => by rw [upd_ne (h0.ne e nt_frz)]; exact m.pers.frz q a u e⟩
  keep := fun q u e nt n no => by rw [upd_ne (h0.ne e nt)]; exact m.keep q u e nt n no
  live := fun q u e nu => by rw [upd_ne (h0.ne e nu)]; exact m.live q u e nu
  shr := m.shr
theorem e_frz (ha : PE X a (tF Γ W L)) : PE X a (tE Γ W (eMap .lst L)) := by
  refine ⟨fun pins s σ H Q I h => ?_⟩
  obtain ⟨φ, ρ, M, J, h⟩ := h
  have h2 : tF Γ W L σ H (fun v H1 => ∃ p vs, v = .ref p ∧ H1 p = some (.lst vs) ∧ ∀ o, Q v (upd H1 p (.frz o (.lst vs)))) :=
    tX.bind0 J h fun φ1 ρ1 M1 H1 v ds J1 m1 r1 h1 => by
      obtain ⟨p, vs, rfl, n0, n1, no, hp, hz, at1⟩ := r1
      refine ⟨p, vs, rfl, hp, fun o => ?_⟩
      have ps : Pers H1 (upd H1 p (.frz o (.lst vs))) := ⟨fun q xs e => by rw [upd_ne (Soft.ne (.inl ⟨vs, hp⟩) e not_soft_tup)]; exact e, fun q _ _ e => by rw [upd_ne (Soft.ne (.inl ⟨vs, hp⟩) e not_soft_frz)]; exact e⟩
      exact h1 φ1 _ _ (J1.freeze hp n1 no) (m1.late n0 nt_frz ⟨_, hp⟩) (.lst (.inl ⟨o, upd_same⟩) hz (at1.mono (Pre.refl _) ps))
  obtain h3 := ha.run pins s σ H _ I h2
  refine wpAny_mono h3 (fun u s' ⟨v, H1, I1, rv, p, vs, ev, hp, q⟩ => ?_) fun _ _ x => x
  obtain ⟨od, I2⟩ := I1.lock hp True.intro
  exact ⟨v, _, I2, rv, q od⟩

/-! ### what can be read as a list or a tuple -/
def seqOf (d : D) : E (List D) := fun ρ M => match d with
  | .tup ds => .ok ds ρ M
  | .lst ds => .ok ds ρ M
  | .ref i => match M[i]? with
    | some (.lst ds) => .ok ds ρ M
    | _ => .stuck
  | _ => .stuck
def eSeq (F : E D) : E (List D) := eBind F seqOf
theorem seq_at {φ : List Addr} {ρ : Rho} {M : Mem} {σ : L2.St} {H H0 : Hp} {v : V} {d : D} {ds : List D} {ρ' : Rho} {M' : Mem} (I : In Γ φ ρ M σ H) (at1 : At Γ φ H v d) (h : seqOf d ρ M = .ok ds ρ' M') : ρ' = ρ ∧ M' = M ∧ RS Γ H0 φ ρ σ H v ds := by
  cases at1 with
  | tup s z r => simp only [seqOf] at h; cases h; exact ⟨rfl, rfl, _, _, rfl, .inr s, z, r⟩
  | lst s z r => simp only [seqOf] at h; cases h; exact ⟨rfl, rfl, _, _, rfl, .inl s.seq, z, r⟩
  | ref e =>
    simp only [seqOf] at h
    split at h
    · rename_i ds' em
      cases h
      obtain ⟨p, ep, m⟩ := I.mem _ _ em
      rw [e] at ep; cases ep
      obtain ⟨vs, hp, z, r⟩ := m
      exact ⟨rfl, rfl, _, _, rfl, .inl (SqL.of hp), z, r⟩
    · cases h
  | _ => simp only [seqOf] at h; cases h
theorem sq_e (ha : PE X a (tE Γ W F)) : PE X a (tSq Γ W (eSeq F)) := PEimp ha fun σ H Q ⟨φ, ρ, M, I, h⟩ => tX.bind I h fun φ1 ρ1 M1 H1 v d I1 m1 a1 h1 => by
  cases e : seqOf d ρ1 M1 with
  | ok ds ρ' M' =>
    obtain ⟨rfl, rfl, r⟩ := seq_at (H0 := H1) I1 a1 e
    rw [e] at h1
    exact h1.now I1 r
  | exc n t ρ' M' =>
    exfalso
    unfold seqOf at e
    split at e
    · cases e
    · cases e
    · split at e <;> cases e
    · cases e
  | stuck => rw [e] at h1; exact h1.elim
theorem sq_f (ha : PE X a (tF Γ W L)) : PE X a (tSq Γ W L) := PEimp ha fun σ H Q ⟨φ, ρ, M, I, h⟩ => by
  refine ⟨φ, ρ, M, I, ?_⟩
  cases e : L ρ M with
  | ok ds ρ' M' =>
    rw [e] at h
    exact fun φ' H' b I' m' ⟨p, vs, e1, _, _, _, hp, z, r⟩ => h φ' H' b I' m' ⟨p, vs, e1, .inl (SqL.of hp), z, r⟩
  | exc n t ρ' M' => rw [e] at h; exact h
  | stuck => rw [e] at h; exact h
/-- a list of the def's own, by its name -/
def eOwn (i : Nat) : E (List D) := fun ρ M => match ρ[i]? with
  | some (.own (.lst ds)) => .ok ds ρ M
  | _ => .stuck
theorem sq_own (i : Nat) {x : Str} {pos : Pos} (h : PE X (.Name x pos) (tVar i)) : PE X (.Name x pos) (tSq Γ W (eOwn i)) :=
  PEimp h fun σ H Q ⟨φ, ρ, M, I, h⟩ => by
    unfold eOwn at h
    split at h
    · rename_i ds e
      obtain ⟨p, s, ⟨vs, hp, z, r⟩, n⟩ := I.own i _ e
      exact ⟨_, s, h.now I ⟨p, vs, rfl, .inl (SqL.of hp), z, r⟩⟩
    · exact h.elim
/-- a list of the def's own is handed on: it stays as it is from now on -/
def eGive (i : Nat) : E D := fun ρ M => match ρ[i]? with
  | some (.own (.lst ds)) => .ok (.lst ds) (ρ.set i (.val (.lst ds))) M
  | _ => .stuck
theorem In.give {φ : List Addr} {ρ : Rho} {M : Mem} {σ : L2.St} {H : Hp} {p : Addr} {vs : List V} {ds : List D} {o : Obj} {i : Nat} (I : In Γ φ ρ M σ H) (e : ρ[i]? = some (.own (.lst ds))) (s : σ[i]? = some (some (.ref p)))
    (h : H p = some (.lst vs)) (z : vs.length ≤ sizeLine) (r : Ats Γ φ H vs ds) (n : p ∉ φ) : In Γ φ (ρ.set i (.val (.lst ds))) M σ (upd H p (.frz o (.lst vs))) := by
  have sf : Soft (H p) := .inl ⟨vs, h⟩
  have ps : Pers H (upd H p (.frz o (.lst vs))) := ⟨fun q xs e => by rw [upd_ne (sf.ne e not_soft_tup)]; exact e, fun q _ _ e => by rw [upd_ne (sf.ne e not_soft_frz)]; exact e⟩
  have hi : i < ρ.length := (List.getElem?_eq_some_iff.mp e).1
  refine ⟨by rw [List.length_set]; exact I.len, fun j d ej => ?_, fun j c ej => ?_, fun j k a b q ej ek => ?_, I.rl, I.nd, fun j c ej => ?_, Γ.stab _ _ _ (.inr sf) I.j⟩
  · by_cases hj : i = j
    · subst hj
      rw [List.getElem?_set_self hi] at ej
      cases ej
      exact ⟨_, s, .lst (.inl ⟨o, upd_same⟩) z (r.mono (Pre.refl _) ps)⟩
    · rw [List.getElem?_set_ne hj] at ej
      obtain ⟨v, s', a⟩ := I.val j d ej
      exact ⟨v, s', a.mono (Pre.refl _) ps⟩
  · have hj : i ≠ j := by rintro rfl; rw [List.getElem?_set_self hi] at ej; cases ej
    rw [List.getElem?_set_ne hj] at ej
    obtain ⟨q, s', m, nn⟩ := I.own j c ej
    have nq : q ≠ p := by rintro rfl; exact hj (I.sep i j _ _ _ e ej s s')
    exact ⟨q, s', m.move (Pre.refl _) ps fun u e => by rw [upd_ne nq]; exact e, nn⟩
  · have hj : i ≠ j := by rintro rfl; rw [List.getElem?_set_self hi] at ej; cases ej
    have hk : i ≠ k := by rintro rfl; rw [List.getElem?_set_self hi] at ek; cases ek
    rw [List.getElem?_set_ne hj] at ej
    rw [List.getElem?_set_ne hk] at ek
    exact I.sep j k a b q ej ek
  · obtain ⟨q, s', m⟩ := I.mem j c ej
    have nq : q ≠ p := by rintro rfl; exact n (List.mem_of_getElem? s')
    exact ⟨q, s', m.move (Pre.refl _) ps fun u e => by rw [upd_ne nq]; exact e⟩
theorem Mono.give {φ : List Addr} {ρ : Rho} {σ : L2.St} {H : Hp} {p : Addr} {vs : List V} {ds : List D} {o : Obj} {i : Nat} (e : ρ[i]? = some (.own (.lst ds))) (s : σ[i]? = some (some (.ref p)))
    (h : H p = some (.lst vs)) : Mono φ ρ σ H φ (ρ.set i (.val (.lst ds))) σ (upd H p (.frz o (.lst vs))) where
  pre := Pre.refl _
  fresh := fun _ a n => absurd a n
  pers := ⟨fun q xs e => by rw [upd_ne (Soft.ne (.inl ⟨vs, h⟩) e not_soft_tup)]; exact e, fun q _ _ e => by rw [upd_ne (Soft.ne (.inl ⟨vs, h⟩) e not_soft_frz)]; exact e⟩
  keep := fun q u eq nt n no => by rw [upd_ne (fun z => no ⟨i, _, e, by rw [z]; exact s⟩)]; exact eq
  live := fun q u eq nu => by
    by_cases hq : q = p
    · rw [hq, upd_same]; exact ⟨_, rfl, nt_frz⟩
    · rw [upd_ne hq]; exact ⟨u, eq, nu⟩
  shr := fun q ⟨j, c, ej, sj⟩ => by
    have hi : i < ρ.length := (List.getElem?_eq_some_iff.mp e).1
    have hj : i ≠ j := by rintro rfl; rw [List.getElem?_set_self hi] at ej; cases ej
    rw [List.getElem?_set_ne hj] at ej
    exact .inl ⟨j, c, ej, sj⟩
theorem e_give (i : Nat) {x : Str} {pos : Pos} (ha : PE X (.Name x pos) (tVar i)) : PE X (.Name x pos) (tE Γ W (eGive i)) := by
  refine ⟨fun pins s σ H Q I h => ?_⟩
  obtain ⟨φ, ρ, M, J, h⟩ := h
  unfold eGive at h
  split at h
  · rename_i ds e
    obtain ⟨p, sp, ⟨vs, hp, z, r⟩, n⟩ := J.own i _ e
    refine wpAny_mono (ha.run pins s σ H (fun v H1 => v = .ref p ∧ H1 = H) I ⟨_, sp, rfl, rfl⟩) (fun u s' ⟨v, H1, I1, rv, ev, eH⟩ => ?_) fun _ _ x => x
    subst ev eH
    obtain ⟨od, I2⟩ := I1.lock hp True.intro
    exact ⟨_, _, I2, rv, h φ _ _ (J.give e sp hp z r n) (Mono.give e sp hp) (.lst (.inl ⟨od, upd_same⟩) z (r.mono (Pre.refl _) (Mono.give (φ := φ) e sp hp).pers))⟩
  · exact h.elim

/-! ### displays -/
def eTup (L : E (List D)) : E D := eBind L fun ds => if ds.length ≤ sizeLine then eOk (.tup ds) else eStuck
def eLst (L : E (List D)) : E (List D) := eBind L fun ds => if ds.length ≤ sizeLine then eOk ds else eStuck
theorem e_tup {x1} (ha : PA X es (tA Γ W L)) : PE X (.Tuple es x1 pos) (tE Γ W (eTup L)) := PEimp (pe_tup ha) fun σ H Q ⟨φ, ρ, M, I, h⟩ => tX.bind I h fun φ1 ρ1 M1 H1 vs ds I1 m1 a1 h1 => by
  split at h1
  · rename_i z
    refine ⟨by rw [Ats.length a1]; exact z, fun p hp => h1.laid I1 hp (.tup (SqT.of upd_same) (by rw [Ats.length a1]; exact z) (Ats.mono (Pre.refl _) (pers_new hp) a1))⟩
  · exact h1.elim
theorem rf_new {φ : List Addr} {ρ : Rho} {M : Mem} {σ : L2.St} {H : Hp} {p : Addr} {vs : List V} {ds : List D} (I : In Γ φ ρ M σ H) (hp : H p = none) (z : vs.length ≤ sizeLine) (r : Ats Γ φ H vs ds) : RF Γ H φ ρ σ (upd H p (.lst vs)) (.ref p) ds :=
  ⟨p, vs, rfl, .none hp, I.notIn hp, I.notOwned hp, upd_same, z, Ats.mono (Pre.refl _) (pers_new hp) r⟩
theorem f_lst (ha : PA X es (tA Γ W L)) : PE X (.List es pos) (tF Γ W (eLst L)) := PEimp (pe_lst ha) fun σ H Q ⟨φ, ρ, M, I, h⟩ => tX.bind I h fun φ1 ρ1 M1 H1 vs ds I1 m1 a1 h1 => by
  split at h1
  · rename_i z
    exact ⟨by rw [Ats.length a1]; exact z, fun p hp => h1.laid I1 hp (rf_new I1 hp (by rw [Ats.length a1]; exact z) a1)⟩
  · exact h1.elim
def eStar (F : E (List D)) (G : E (List D)) : E (List D) := eBind F fun xs => eBind G fun ys => eOk (xs ++ ys)
theorem a_star {p : Pos} (ha : PE X a (tSq Γ W L)) (hr : PA X es (tA Γ W L2')) (hK : X.K = Γ.K := by rfl) (hs : starEach (.Starred a p :: es) X.env = (true, eval a X.env) :: starEach es X.env := by rfl) : PA X (.Starred a p :: es) (tA Γ W (eStar L L2')) :=
  PAimp (StX.pa_star ha hr hs) fun σ H Q ⟨φ, ρ, M, I, h⟩ => tX.bind I h fun φ1 ρ1 M1 H1 v ds I1 m1 ⟨p, vs, e, s, z, r⟩ h1 => ⟨p, vs, e, by rw [hK]; exact s.symm, tX.bind I1 h1 fun φ2 ρ2 M2 H2 ws es I2 m2 a2 h2 =>
    h2.now I2 (Ats.append (Ats.mono m2.pre m2.pers r) a2)⟩
end
end Dn
-- DnBuilt
/-! Dn: subscripts, slices, the built-in functions. -/
namespace Dn
open PySem L2
section
variable {X : Cx} {Γ : Gc} {W : WX} {a b c : Expr} {F G G2 : E D} {L L2' : E (List D)} {pos p : Pos} {es : List Expr}

/-! ### subscripts -/
theorem atI_ats {φ : List Addr} {H : Hp} {vs : List V} {ds : List D} {i : Int} {d : D} (r : Ats Γ φ H vs ds) (h : atI ds i = some d) : ∃ v, atI vs i = some v ∧ At Γ φ H v d := by
  unfold atI at h ⊢
  obtain ⟨j, e, q⟩ := Option.bind_eq_some_iff.mp h
  obtain ⟨v, h1, h2⟩ := r.get q
  exact ⟨v, by rw [Option.bind_eq_some_iff]; exact ⟨j, by rw [r.length]; exact e, h1⟩, h2⟩
def gIx : D → D → Option D
  | .tup ds, .int i => atI ds i
  | .lst ds, .int i => atI ds i
  | .str z, .int i => if z.length ≤ sizeLine then (atI z.cps.toList i).map fun c => .str ⟨#[c]⟩ else none
  | _, _ => none
theorem od_ix (hK : X.K = Γ.K) : OpD Γ (rIx X.K) gIx := by
  intro φ ρ M σ H x y d e z Q I a b g k1 k2
  rw [hK]
  cases b <;> first | (cases a <;> (simp only [gIx] at g; cases g; done)) | skip
  rename_i i
  cases a with
  | tup s zl r =>
    obtain ⟨v, h1, h2⟩ := atI_ats r g
    exact .inr (.inl ⟨_, _, _, v, rfl, rfl, s, h1, k1 _ h2⟩)
  | lst s zl r =>
    obtain ⟨v, h1, h2⟩ := atI_ats r g
    exact .inl ⟨_, _, _, v, rfl, rfl, s.seq, h1, k1 _ h2⟩
  | str w =>
    simp only [gIx] at g
    split at g
    · rename_i hz
      obtain ⟨c, h1, h2⟩ := Option.map_eq_some_iff.mp g
      subst h2
      exact .inr (.inr ⟨w, _, c, rfl, rfl, hz, h1, k1 _ (.str _)⟩)
    · cases g
  | _ => simp only [gIx] at g; cases g
theorem e_ix (ha : PE X a (tE Γ W F)) (hb : PE X b (tE Γ W G)) (hs : PlainIx b := by intro _ _; rfl) (hK : X.K = Γ.K := by rfl) : PE X (.Subscript a b pos) (tE Γ W (eOp gIx F G)) :=
  PEimp (pe_ix ix_seq ha hb hs) fun σ H Q q => op_read (od_ix hK) rfl rfl q
/-- of a list (the def's own, or new) -/
def eIxL (L : E (List D)) (G : E D) : E D := eBind L fun ds => eBind G fun i => match i with
  | .int i => optE (atI ds i)
  | _ => eStuck
def tInt (r : Int → Hp → (Option Int → Hp → Prop) → Prop) : True := trivial

/-! ### slices -/
def PartOk (o : Option Int) : Prop := True
def oNo : E (Option Int) := eOk none
def oInt (F : E D) : E (Option Int) := eBind F fun d => match d with
  | .int i => eOk (some i)
  | _ => eStuck
def RO : Rel (Option Int) (Option Int) := fun _ _ _ _ _ b c => b = c
instance : RelOk RO := ⟨fun _ h => h⟩
abbrev tO' (Γ : Gc) (W : WX) (F : E (Option Int)) : TO := tX Γ W RO F
theorem POimp {e : Option Expr} {t t' : TO} (h : PO X e t) (i : ∀ σ H Q, t' σ H Q → t σ H Q) : PO X e t' := ⟨fun pins s σ H Q I q => h.run pins s σ H Q I (i σ H Q q)⟩
theorem o_no : PO X none (tO' Γ W oNo) := POimp po_none fun σ H Q ⟨φ, ρ, M, I, h⟩ => h.now I rfl
theorem o_int (ha : PE X a (tE Γ W F)) : PO X (some a) (tO' Γ W (oInt F)) := POimp (po_some ha) fun σ H Q ⟨φ, ρ, M, I, h⟩ => tX.bind I h fun φ1 ρ1 M1 H1 x d I1 m1 a1 h1 => by
  cases a1 with
  | int i => exact ⟨i, rfl, h1.now I1 rfl⟩
  | _ => exact h1.elim
def cutD (ds : List D) (lo hi : Option Int) : List D := (ds.drop (HT.sIx ds.length 0 lo)).take (HT.sIx ds.length ds.length hi - HT.sIx ds.length 0 lo)
theorem cut_ats {φ : List Addr} {H : Hp} {vs : List V} {ds : List D} {lo hi : Option Int} (r : Ats Γ φ H vs ds) : Ats Γ φ H (cutV vs lo hi) (cutD ds lo hi) := by
  unfold cutV cutD
  rw [r.length]
  exact (r.drop _).take _
theorem cutD_whole {ds : List D} {lo hi : Option Int} (h : HT.sIx ds.length 0 lo = 0 ∧ HT.sIx ds.length ds.length hi = ds.length) : cutD ds lo hi = ds := by
  unfold cutD
  rw [h.1, h.2]
  simp
variable {lo hi : Option Expr} {A B : E (Option Int)} {p2 : Pos}
def eSlT (F : E D) (A B : E (Option Int)) : E D := eBind F fun d => eBind A fun l => eBind B fun h => match d with
  | .tup ds => eOk (.tup (cutD ds l h))
  | .str z => if z.length ≤ sizeLine then eOk (.str (cutS z l h)) else eStuck
  | _ => eStuck
theorem e_slice (ha : PE X a (tE Γ W F)) (hl : PO X lo (tO' Γ W A)) (hh : PO X hi (tO' Γ W B)) (hK : X.K = Γ.K := by rfl) : PE X (.Subscript a (.Slice lo hi none p2) pos) (tE Γ W (eSlT F A B)) :=
  PEimp (pe_slice (sl_tupA.or sl_str) ha hl hh) fun σ H Q ⟨φ, ρ, M, I, h⟩ => tX.bind I h fun φ1 ρ1 M1 H1 x d I1 m1 a1 h1 => tX.bind I1 h1 fun φ2 ρ2 M2 H2 x2 l I2 m2 e2 h2 => tX.bind I2 h2 fun φ3 ρ3 M3 H3 x3 u I3 m3 e3 h3 => by
    subst e2 e3
    have a3 := (a1.mono m2.pre m2.pers).mono m3.pre m3.pers
    cases a3 with
    | tup s z r =>
      rw [hK]
      refine .inl ⟨_, _, rfl, s, fun hw => ?_, fun hw t ht => ?_⟩
      · rw [r.length] at hw
        have h4 : Out Γ W σ (RD Γ) φ3 ρ3 H3 Q (.ok (.tup (cutD _ x2 x3)) ρ3 M3) := h3
        rw [cutD_whole hw] at h4
        exact h4.now I3 (.tup s z r)
      · refine (h3 : Out Γ W σ (RD Γ) φ3 ρ3 H3 Q (.ok (.tup (cutD _ x2 x3)) ρ3 M3)).laid I3 ht (.tup (SqT.of upd_same) (Nat.le_trans (cutV_length _ _ _) z) (Ats.mono (Pre.refl _) (pers_new ht) (cut_ats r)))
    | str w =>
      dsimp only at h3
      split at h3
      · rename_i hz
        exact .inr ⟨w, rfl, hz, h3.now I3 (.str _)⟩
      · exact h3.elim
    | _ => exact h3.elim
def eSlL (L : E (List D)) (A B : E (Option Int)) : E (List D) := eBind L fun ds => eBind A fun l => eBind B fun h => eOk (cutD ds l h)
/-- a cut of a list -/
theorem f_slice (ha : PE X a (tF Γ W L)) (hl : PO X lo (tO' Γ W A)) (hh : PO X hi (tO' Γ W B)) (hK : X.K = Γ.K := by rfl) : PE X (.Subscript a (.Slice lo hi none p2) pos) (tF Γ W (eSlL L A B)) :=
  PEimp (pe_slice sl_list ha hl hh) fun σ H Q ⟨φ, ρ, M, I, h⟩ => tX.bind I h fun φ1 ρ1 M1 H1 x ds I1 m1 a1 h1 => tX.bind I1 h1 fun φ2 ρ2 M2 H2 x2 l I2 m2 e2 h2 => tX.bind I2 h2 fun φ3 ρ3 M3 H3 x3 u I3 m3 e3 h3 => by
    subst e2 e3
    obtain ⟨p, vs, rfl, n0, n1, no, hp, z, r⟩ := a1
    have m := m2.trans m3
    have hp3 := m.keep p _ hp (fun _ q => nomatch q) n1 no
    rw [hK]
    exact ⟨p, vs, rfl, SqL.of hp3, fun t ht => h3.laid I3 ht (rf_new I3 ht (Nat.le_trans (cutV_length _ _ _) z) (cut_ats (r.mono m.pre m.pers)))⟩
/-- .. of a list that stays -/
def eSlF (F : E D) (A B : E (Option Int)) : E (List D) := eBind F fun d => eBind A fun l => eBind B fun h => match d with
  | .lst ds => eOk (cutD ds l h)
  | _ => eStuck
theorem f_sliceF (ha : PE X a (tE Γ W F)) (hl : PO X lo (tO' Γ W A)) (hh : PO X hi (tO' Γ W B)) (hK : X.K = Γ.K := by rfl) : PE X (.Subscript a (.Slice lo hi none p2) pos) (tF Γ W (eSlF F A B)) :=
  PEimp (pe_slice sl_list ha hl hh) fun σ H Q ⟨φ, ρ, M, I, h⟩ => tX.bind I h fun φ1 ρ1 M1 H1 x d I1 m1 a1 h1 => tX.bind I1 h1 fun φ2 ρ2 M2 H2 x2 l I2 m2 e2 h2 => tX.bind I2 h2 fun φ3 ρ3 M3 H3 x3 u I3 m3 e3 h3 => by
    subst e2 e3
    have m := m2.trans m3
    cases a1 with
    | lst s z r =>
      rw [hK]
      exact ⟨_, _, rfl, (m.pers.fz s).seq, fun t ht => (h3 : Out Γ W σ (RF Γ) φ3 ρ3 H3 Q (.ok (cutD _ x2 x3) ρ3 M3)).laid I3 ht (rf_new I3 ht (Nat.le_trans (cutV_length _ _ _) z) (cut_ats (r.mono m.pre m.pers)))⟩
    | _ => exact h3.elim

/-! ### built-in functions of one argument -/
/-- by values: a list or tuple in, a plain value out -/
theorem callS {id : String} {nm : Str} {r : List V → Hp → VK → Prop} {f : List D → Option D} (hc : CallR X (.builtin id) r) (hd : ∀ (φ : List Addr) (H : Hp) (q : Addr) (vs : List V) (ds : List D) (z : D) (Q : VK), (SqL Γ.K H q vs ∨ SqT Γ.K H q vs) → vs.length ≤ sizeLine → Ats Γ φ H vs ds → f ds = some z →
      (∀ v, At Γ φ H v z → Q v H) → r [.ref q] H Q)
    (hg : Gl X nm) (hm : X.mg nm = none) (hv : bootBuiltins nm = some (.builtin id)) (ha : PE X a (tSq Γ W L)) (hn : nm ≠ "__name__" := by decide) (hdb : (nm == ("__debug__" : Str)) = false := by decide)
    (he : starEach [a] X.env = (false, eval a X.env) :: starEach [] X.env := by rfl) (hpl : (backTo pos (starEach [] X.env)).any (·.1) = false := by rfl) :
    PE X (.Call (.Name nm p) [a] [] pos) (tE Γ W (eBind L fun ds => optE (f ds))) :=
  PEimp (pe_callB hc hg hm hv (pa_cons ha pa_nil he) hn hdb he hpl) fun σ H Q ⟨φ, ρ, M, I, h⟩ => tX.bind I h fun φ1 ρ1 M1 H1 v ds I1 m1 ⟨q, vs, e, s, z, r⟩ h1 => by
    subst e
    obtain ⟨w, ew, h2⟩ := h1.opt
    exact hd φ1 H1 q vs ds w Q s z r ew fun v a => h2.now I1 a
def fLen (ds : List D) : Option D := some (.int ds.length)
theorem e_lenS (hg : Gl X "len") (hm : X.mg "len" = none) (ha : PE X a (tSq Γ W L)) (hK : X.K = Γ.K := by rfl) (he : starEach [a] X.env = (false, eval a X.env) :: starEach [] X.env := by rfl) : PE X (.Call (.Name "len" p) [a] [] pos) (tE Γ W (eBind L fun ds => optE (fLen ds))) :=
  callS (r := fun xs H Q => ∃ p ys, xs = [.ref p] ∧ (SqL X.K H p ys ∨ SqT X.K H p ys) ∧ Q (.int ys.length) H) call_len_seq (fun φ H q vs ds z Q s hz r e k => ⟨q, vs, rfl, by rw [hK]; exact s, by cases e; rw [r.length]; exact k _ (.int _)⟩) hg hm PySem.boot_len ha (he := he)
def bools : List D → Option (List Bool)
  | [] => some []
  | .bl b :: r => (bools r).map (b :: ·)
  | _ => none
theorem bools_at {φ : List Addr} {H : Hp} : ∀ {ds : List D} {vs : List V} {bs : List Bool}, Ats Γ φ H vs ds → bools ds = some bs → vs = bs.map V.bl
  | [], _, _, r, e => by cases r; simp only [bools] at e; cases e; rfl
  | d :: ds, _, _, r, e => by
    cases r with
    | cons h t =>
      cases h <;> simp only [bools] at e <;> first | (cases e; done) | skip
      obtain ⟨bs, e1, e2⟩ := Option.map_eq_some_iff.mp e
      subst e2
      rw [bools_at t e1]; rfl
def fAll (ds : List D) : Option D := (bools ds).map fun bs => .bl (bs.all id)
def fAny (ds : List D) : Option D := (bools ds).map fun bs => .bl (bs.any id)
theorem e_all (hc : X.calm = true) (hg : Gl X "all") (hm : X.mg "all" = none) (ha : PE X a (tF Γ W L)) (hK : X.K = Γ.K := by rfl) (he : starEach [a] X.env = (false, eval a X.env) :: starEach [] X.env := by rfl) : PE X (.Call (.Name "all" p) [a] [] pos) (tE Γ W (eBind L fun ds => optE (fAll ds))) :=
  PEimp (pe_callB (cr_all hc) hg hm (by decide +kernel) (pa_cons ha pa_nil he) (he := he)) fun σ H Q ⟨φ, ρ, M, I, h⟩ => tX.bind I h fun φ1 ρ1 M1 H1 v ds I1 m1 ⟨q, vs, e, _, _, _, hp, z, r⟩ h1 => by
    subst e
    obtain ⟨w, ew, h2⟩ := h1.opt
    obtain ⟨bs, e1, e2⟩ := Option.map_eq_some_iff.mp ew
    subst e2
    exact ⟨q, bs, rfl, by rw [← bools_at r e1]; exact SqL.of hp, h2.now I1 (.bl _)⟩
theorem e_any (hc : X.calm = true) (hg : Gl X "any") (hm : X.mg "any" = none) (ha : PE X a (tF Γ W L)) (hK : X.K = Γ.K := by rfl) (he : starEach [a] X.env = (false, eval a X.env) :: starEach [] X.env := by rfl) : PE X (.Call (.Name "any" p) [a] [] pos) (tE Γ W (eBind L fun ds => optE (fAny ds))) :=
  PEimp (pe_callB (cr_any hc) hg hm (by decide +kernel) (pa_cons ha pa_nil he) (he := he)) fun σ H Q ⟨φ, ρ, M, I, h⟩ => tX.bind I h fun φ1 ρ1 M1 H1 v ds I1 m1 ⟨q, vs, e, _, _, _, hp, z, r⟩ h1 => by
    subst e
    obtain ⟨w, ew, h2⟩ := h1.opt
    obtain ⟨bs, e1, e2⟩ := Option.map_eq_some_iff.mp ew
    subst e2
    exact ⟨q, bs, rfl, by rw [← bools_at r e1]; exact SqL.of hp, h2.now I1 (.bl _)⟩
def intL : List D → Option (List Int)
  | [] => some []
  | .int b :: r => (intL r).map (b :: ·)
  | _ => none
theorem intL_at {φ : List Addr} {H : Hp} : ∀ {ds : List D} {vs : List V} {bs : List Int}, Ats Γ φ H vs ds → intL ds = some bs → vs = bs.map V.int
  | [], _, _, r, e => by cases r; simp only [intL] at e; cases e; rfl
  | d :: ds, _, _, r, e => by
    cases r with
    | cons h t =>
      cases h <;> simp only [intL] at e <;> first | (cases e; done) | skip
      obtain ⟨bs, e1, e2⟩ := Option.map_eq_some_iff.mp e
      subst e2
      rw [intL_at t e1]; rfl
def fSum (ds : List D) : Option D := (intL ds).map fun ns => .int ns.sum
theorem e_sum (hc : X.calm = true) (hg : Gl X "sum") (hm : X.mg "sum" = none) (ha : PE X a (tF Γ W L)) (hK : X.K = Γ.K := by rfl) (he : starEach [a] X.env = (false, eval a X.env) :: starEach [] X.env := by rfl) : PE X (.Call (.Name "sum" p) [a] [] pos) (tE Γ W (eBind L fun ds => optE (fSum ds))) :=
  PEimp (pe_callB (cr_sum hc) hg hm (by decide +kernel) (pa_cons ha pa_nil he) (he := he)) fun σ H Q ⟨φ, ρ, M, I, h⟩ => tX.bind I h fun φ1 ρ1 M1 H1 v ds I1 m1 ⟨q, vs, e, _, _, _, hp, z, r⟩ h1 => by
    subst e
    obtain ⟨w, ew, h2⟩ := h1.opt
    obtain ⟨bs, e1, e2⟩ := Option.map_eq_some_iff.mp ew
    subst e2
    exact ⟨q, bs, rfl, by rw [← intL_at r e1]; exact SqL.of hp, h2.now I1 (.int _)⟩
/-- tuple(list or tuple), list(..) -/
theorem e_tuple (hg : Gl X "tuple") (hm : X.mg "tuple" = none) (ha : PE X a (tSq Γ W L)) (hK : X.K = Γ.K := by rfl) (he : starEach [a] X.env = (false, eval a X.env) :: starEach [] X.env := by rfl) : PE X (.Call (.Name "tuple" p) [a] [] pos) (tE Γ W (eMap .tup L)) :=
  PEimp (pe_callTy call_tuple_of hg hm (by decide +kernel) (pa_cons ha pa_nil he) (he := he)) fun σ H Q ⟨φ, ρ, M, I, h⟩ => tX.bind I h fun φ1 ρ1 M1 H1 v ds I1 m1 ⟨q, vs, e, s, z, r⟩ h1 => by
    subst e
    rw [hK]
    rcases s with s | s
    · exact ⟨q, vs, rfl, .inl ⟨s, fun t ht => (h1 : Out Γ W σ (RD Γ) φ1 ρ1 H1 Q (.ok (.tup ds) ρ1 M1)).laid I1 ht (.tup (SqT.of upd_same) z (r.mono (Pre.refl _) (pers_new ht)))⟩⟩
    · exact ⟨q, vs, rfl, .inr ⟨s, (h1 : Out Γ W σ (RD Γ) φ1 ρ1 H1 Q (.ok (.tup ds) ρ1 M1)).now I1 (.tup s z r)⟩⟩
theorem f_list (hg : Gl X "list") (hm : X.mg "list" = none) (ha : PE X a (tSq Γ W L)) (hK : X.K = Γ.K := by rfl) (he : starEach [a] X.env = (false, eval a X.env) :: starEach [] X.env := by rfl) : PE X (.Call (.Name "list" p) [a] [] pos) (tF Γ W L) :=
  PEimp (pe_callTy call_list_of hg hm (by decide +kernel) (pa_cons ha pa_nil he) (he := he)) fun σ H Q ⟨φ, ρ, M, I, h⟩ => by
    have h' : Out Γ W σ (RF Γ) φ ρ H Q (eBind L (fun ds => eOk ds) ρ M) := by
      unfold eBind
      cases e : L ρ M with
      | ok ds ρ' M' => rw [e] at h; exact h
      | exc n t ρ' M' => rw [e] at h; exact h
      | stuck => rw [e] at h; exact h
    exact tX.bind I h' fun φ1 ρ1 M1 H1 v ds I1 m1 ⟨q, vs, e, s, z, r⟩ h1 => by
      subst e
      rw [hK]
      exact ⟨q, vs, rfl, s, fun t ht => (h1 : Out Γ W σ (RF Γ) φ1 ρ1 H1 Q (.ok ds ρ1 M1)).laid I1 ht (rf_new I1 ht z r)⟩
/-! ### built-in functions of plain values -/
theorem callV {f : Value} {nm : Str} {r : List V → Hp → VK → Prop} {g : List D → Option D} (pe : ∀ {t : TA}, PA X es t → PE X (.Call (.Name nm p) es [] pos) (tCB r t))
    (hd : ∀ (φ : List Addr) (H : Hp) (vs : List V) (ds : List D) (z : D) (Q : VK), Ats Γ φ H vs ds → g ds = some z → (∀ v, At Γ φ H v z → Q v H) → r vs H Q) (ha : PA X es (tA Γ W L)) : PE X (.Call (.Name nm p) es [] pos) (tE Γ W (eBind L fun ds => optE (g ds))) :=
  PEimp (pe ha) fun σ H Q ⟨φ, ρ, M, I, h⟩ => tX.bind I h fun φ1 ρ1 M1 H1 vs ds I1 m1 r h1 => by
    obtain ⟨w, ew, h2⟩ := h1.opt
    exact hd φ1 H1 vs ds w Q r ew fun v a => h2.now I1 a
def fInt : List D → Option D
  | [.int i] => some (.int i)
  | [.bl b] => some (.int (if b then 1 else 0))
  | [.str x] => match PySem.intText? x with
    | some n => if x.length ≤ 640 then some (.int n) else none
    | none => none
  | _ => none
theorem e_int1 (hg : Gl X "int") (hm : X.mg "int" = none) (ha : PA X [a] (tA Γ W L)) (he : starEach [a] X.env = (false, eval a X.env) :: starEach [] X.env := by rfl) : PE X (.Call (.Name "int" p) [a] [] pos) (tE Γ W (eBind L fun ds => optE (fInt ds))) := by
  refine callV (f := .type "int") (r := fun xs H Q => ((∃ i, xs = [.int i] ∧ Q (.int i) H) ∨ ∃ k, xs = [.bl k] ∧ Q (.int (if k then 1 else 0)) H) ∨ ∃ a n, xs = [.str a] ∧ PySem.intText? a = some n ∧ a.length ≤ 640 ∧ Q (.int n) H)
    (fun {t} ht => pe_callTy (fun pins s σ H xs us Q I r h => h.elim (call_int1 pins s σ H xs us Q I r) (call_int_str pins s σ H xs us Q I r)) hg hm (by decide +kernel) ht (he := he)) (fun φ H vs ds z Q r e k => ?_) ha
  unfold fInt at e
  split at e
  · cases e
    cases r with | cons h t => cases t; cases h; exact .inl (.inl ⟨_, rfl, k _ (.int _)⟩)
  · cases e
    cases r with | cons h t => cases t; cases h; exact .inl (.inr ⟨_, rfl, k _ (.int _)⟩)
  · split at e
    · rename_i n en
      split at e
      · rename_i hz
        cases e
        cases r with | cons h t => cases t; cases h; exact .inr ⟨_, n, rfl, en, hz, k _ (.int _)⟩
      · cases e
    · cases e
  · cases e
def fMax2 : List D → Option D
  | [.int i, .int j] => some (.int (if j > i then j else i))
  | _ => none
def fMin2 : List D → Option D
  | [.int i, .int j] => some (.int (if j < i then j else i))
  | _ => none
def fAbs : List D → Option D
  | [.int i] => some (.int (if i < 0 then -i else i))
  | _ => none
theorem e_max2 (hc : X.calm = true) (hg : Gl X "max") (hm : X.mg "max" = none) (ha : PA X [a, b] (tA Γ W L)) (he : starEach [a, b] X.env = (false, eval a X.env) :: starEach [b] X.env := by rfl) (hpl : (backTo pos (starEach [b] X.env)).any (·.1) = false := by rfl) : PE X (.Call (.Name "max" p) [a, b] [] pos) (tE Γ W (eBind L fun ds => optE (fMax2 ds))) := by
  refine callV (f := .builtin "max") (fun {t} ht => pe_callB (call_max2 hc) hg hm (by decide +kernel) ht (he := he) (hpl := hpl)) (fun φ H vs ds z Q r e k => ?_) ha
  unfold fMax2 at e
  split at e
  · cases e
    cases r with | cons h t => cases t with | cons h2 t2 => cases t2; cases h; cases h2; exact ⟨_, _, rfl, k _ (.int _)⟩
  · cases e
theorem e_min2 (hc : X.calm = true) (hg : Gl X "min") (hm : X.mg "min" = none) (ha : PA X [a, b] (tA Γ W L)) (he : starEach [a, b] X.env = (false, eval a X.env) :: starEach [b] X.env := by rfl) (hpl : (backTo pos (starEach [b] X.env)).any (·.1) = false := by rfl) : PE X (.Call (.Name "min" p) [a, b] [] pos) (tE Γ W (eBind L fun ds => optE (fMin2 ds))) := by
  refine callV (f := .builtin "min") (fun {t} ht => pe_callB (call_min2 hc) hg hm (by decide +kernel) ht (he := he) (hpl := hpl)) (fun φ H vs ds z Q r e k => ?_) ha
  unfold fMin2 at e
  split at e
  · cases e
    cases r with | cons h t => cases t with | cons h2 t2 => cases t2; cases h; cases h2; exact ⟨_, _, rfl, k _ (.int _)⟩
  · cases e
theorem e_abs (hg : Gl X "abs") (hm : X.mg "abs" = none) (ha : PA X [a] (tA Γ W L)) (he : starEach [a] X.env = (false, eval a X.env) :: starEach [] X.env := by rfl) : PE X (.Call (.Name "abs" p) [a] [] pos) (tE Γ W (eBind L fun ds => optE (fAbs ds))) := by
  refine callV (f := .builtin "abs") (fun {t} ht => pe_callB call_abs hg hm (by decide +kernel) ht (he := he)) (fun φ H vs ds z Q r e k => ?_) ha
  unfold fAbs at e
  split at e
  · cases e
    cases r with | cons h t => cases t; cases h; exact ⟨_, rfl, k _ (.int _)⟩
  · cases e
def fLenT : List D → Option D
  | [.str z] => if z.length ≤ sizeLine then some (.int z.length) else none
  | _ => none
/-- len of any value that stays: a text, a tuple, a list -/
def fLenV : List D → Option D
  | [.str z] => if z.length ≤ sizeLine then some (.int z.length) else none
  | [.tup ds] => some (.int ds.length)
  | [.lst ds] => some (.int ds.length)
  | _ => none
theorem e_len (hg : Gl X "len") (hm : X.mg "len" = none) (ha : PA X [a] (tA Γ W L)) (hK : X.K = Γ.K := by rfl) (he : starEach [a] X.env = (false, eval a X.env) :: starEach [] X.env := by rfl) : PE X (.Call (.Name "len" p) [a] [] pos) (tE Γ W (eBind L fun ds => optE (fLenV ds))) := by
  refine callV (f := .builtin "len") (r := fun xs H Q => (∃ p ys, xs = [.ref p] ∧ (SqL X.K H p ys ∨ SqT X.K H p ys) ∧ Q (.int ys.length) H) ∨ ∃ z, xs = [.str z] ∧ z.length ≤ sizeLine ∧ Q (.int z.length) H)
    (fun {t} ht => pe_callB (fun pins s σ H xs us Q I r h => h.elim (call_len_seq pins s σ H xs us Q I r) (call_len_str pins s σ H xs us Q I r)) hg hm PySem.boot_len ht (he := he)) (fun φ H vs ds z Q r e k => ?_) ha
  unfold fLenV at e
  rw [hK]
  split at e
  · split at e
    · rename_i hz
      cases e
      cases r with | cons h t => cases t; cases h; exact .inr ⟨_, rfl, hz, k _ (.int _)⟩
    · cases e
  · cases e
    cases r with | cons h t => cases t; cases h with | tup s z r => exact .inl ⟨_, _, rfl, .inr s, by rw [r.length]; exact k _ (.int _)⟩
  · cases e
    cases r with | cons h t => cases t; cases h with | lst s z r => exact .inl ⟨_, _, rfl, .inl s.seq, by rw [r.length]; exact k _ (.int _)⟩
  · cases e
end
end Dn
-- DnLoop
/-! Dn: targets, what is walked, comprehensions. -/
namespace Dn
open PySem L2

/-! ### targets -/
inductive Pt where
  | nm (i : Nat)
  | tp (ps : List Pt)
mutual
def bindP : Pt → D → Rho → Option Rho
  | .nm i, d, ρ => some (ρ.set i (.val d))
  | .tp ps, .tup ds, ρ => if ds.length = ps.length then bindPs ps ds ρ else none
  | .tp _, _, _ => none
def bindPs : List Pt → List D → Rho → Option Rho
  | [], _, ρ => some ρ
  | p :: ps, d :: ds, ρ => match bindP p d ρ with
    | some ρ1 => bindPs ps ds ρ1
    | none => none
  | _ :: _, [], _ => none
end
mutual
def Pt.slots : Pt → List Nat
  | .nm i => [i]
  | .tp ps => slotss ps
def slotss : List Pt → List Nat
  | [] => []
  | p :: ps => p.slots ++ slotss ps
end
section
variable {Γ : Gc} {φ : List Addr} {ρ : Rho} {M : Mem} {σ : L2.St} {H : Hp}
theorem In.setVal {i : Nat} {v : V} {d : D} (I : In Γ φ ρ M σ H) (a : At Γ φ H v d) : In Γ φ (ρ.set i (.val d)) M (σ.set i (some v)) H := by
  refine ⟨by rw [List.length_set, List.length_set]; exact I.len, fun j e ej => ?_, fun j c ej => ?_, fun j k b c q ej ek sj sk => ?_, I.rl, I.nd, I.mem, I.j⟩
  · by_cases hj : i = j
    · subst hj
      by_cases hi : i < ρ.length
      · rw [List.getElem?_set_self hi] at ej
        cases ej
        exact ⟨v, List.getElem?_set_self (by rw [I.len]; exact hi), a⟩
      · rw [List.getElem?_eq_none (by rw [List.length_set]; omega)] at ej; cases ej
    · rw [List.getElem?_set_ne hj] at ej ⊢
      exact I.val j e ej
  · by_cases hj : i = j
    · subst hj
      by_cases hi : i < ρ.length
      · rw [List.getElem?_set_self hi] at ej; cases ej
      · rw [List.getElem?_eq_none (by rw [List.length_set]; omega)] at ej; cases ej
    · rw [List.getElem?_set_ne hj] at ej ⊢
      exact I.own j c ej
  · have nj : ∀ {j : Nat} {c : MO}, (ρ.set i (.val d))[j]? = some (.own c) → i ≠ j := fun {j c} ej hj => by
      subst hj
      by_cases hi : i < ρ.length
      · rw [List.getElem?_set_self hi] at ej; cases ej
      · rw [List.getElem?_eq_none (by rw [List.length_set]; omega)] at ej; cases ej
    have h1 := nj ej
    have h2 := nj ek
    rw [List.getElem?_set_ne h1] at ej sj
    rw [List.getElem?_set_ne h2] at ek sk
    exact I.sep j k b c q ej ek sj sk
theorem Mono.slots {φ : List Addr} {ρ ρ' : Rho} {σ σ' : L2.St} {H : Hp} (h : ∀ p, Owned ρ' σ' p → Owned ρ σ p ∨ Em (H p)) : Mono φ ρ σ H φ ρ' σ' H :=
  ⟨Pre.refl _, fun _ a n => absurd a n, Pers.refl _, fun _ _ e _ _ _ => e, fun _ o e nt => ⟨o, e, nt⟩, h⟩
theorem Mono.setVal {i : Nat} {v : V} {d : D} : Mono φ ρ σ H φ (ρ.set i (.val d)) (σ.set i (some v)) H := Mono.slots fun p ⟨j, c, ej, sj⟩ => by
  have nj : i ≠ j := fun hj => by
    subst hj
    by_cases hi : i < ρ.length
    · rw [List.getElem?_set_self hi] at ej; cases ej
    · rw [List.getElem?_eq_none (by rw [List.length_set]; omega)] at ej; cases ej
  rw [List.getElem?_set_ne nj] at ej sj
  exact .inl ⟨j, c, ej, sj⟩
end
def tP (Γ : Gc) (pt : Pt) : TG := fun v σ H Q => ∃ φ ρ M d ρ', In Γ φ ρ M σ H ∧ At Γ φ H v d ∧ bindP pt d ρ = some ρ' ∧
  ∀ σ', In Γ φ ρ' M σ' H → Mono φ ρ σ H φ ρ' σ' H → (∀ j, j ∉ pt.slots → σ'[j]? = σ[j]?) → σ'.length = σ.length → Q σ' H
def tPs (Γ : Gc) (ps : List Pt) : TGs := fun vs σ H Q => ∃ φ ρ M ds ρ', In Γ φ ρ M σ H ∧ Ats Γ φ H vs ds ∧ ds.length = ps.length ∧ bindPs ps ds ρ = some ρ' ∧
  ∀ σ', In Γ φ ρ' M σ' H → Mono φ ρ σ H φ ρ' σ' H → (∀ j, j ∉ slotss ps → σ'[j]? = σ[j]?) → σ'.length = σ.length → Q σ' H
section
variable {X : Cx} {Γ : Gc} {W : WX} {pos : Pos}
theorem PGimp {e : Expr} {t t' : TG} (h : PG X e t) (i : ∀ v σ H Q, t' v σ H Q → t v σ H Q) : PG X e t' := ⟨fun pins s σ H v u Q I r q => h.run pins s σ H v u Q I r (i v σ H Q q)⟩
theorem PGsimp {e : List Expr} {t t' : TGs} (h : PGs X e t) (i : ∀ v σ H Q, t' v σ H Q → t v σ H Q) : PGs X e t' := ⟨fun pins s σ H v u Q I r q => h.run pins s σ H v u Q I r (i v σ H Q q)⟩
theorem g_name {i : Nat} {x : Str} (h : PG X (.Name x pos) (gName i)) : PG X (.Name x pos) (tP Γ (.nm i)) := PGimp h fun v σ H Q ⟨φ, ρ, M, d, ρ', I, a, b, k⟩ => by
  simp only [bindP] at b
  cases b
  refine k _ (I.setVal a) Mono.setVal (fun j hj => ?_) (List.length_set ..)
  rw [List.getElem?_set_ne (by intro e; apply hj; simp [Pt.slots, e])]
theorem gs_nil : PGs X [] (tPs Γ []) := PGsimp pgs_nil fun vs σ H Q ⟨φ, ρ, M, ds, ρ', I, a, l, b, k⟩ => by
  cases ds with
  | nil =>
    cases a
    simp only [bindPs] at b
    cases b
    exact ⟨rfl, k σ I (Mono.refl _ _ _ _) (fun _ _ => rfl) rfl⟩
  | cons _ _ => simp at l
theorem gs_cons {e : Expr} {es : List Expr} {p : Pt} {ps : List Pt} (h1 : PG X e (tP Γ p)) (h2 : PGs X es (tPs Γ ps)) (hs : (assignEach (e :: es) X.env).map (·.2) = assign e X.env :: (assignEach es X.env).map (·.2) := by rfl) : PGs X (e :: es) (tPs Γ (p :: ps)) :=
  PGsimp (pgs_cons h1 h2 hs) fun vs σ H Q ⟨φ, ρ, M, ds, ρ', I, a, l, b, k⟩ => by
    cases a with
    | nil => simp at l
    | @cons v vr d dr a ar =>
      simp only [bindPs] at b
      split at b
      · rename_i ρ1 b1
        refine ⟨v, vr, rfl, φ, ρ, M, d, ρ1, I, a, b1, fun σ1 I1 m1 k1 l1 => ?_⟩
        refine ⟨φ, ρ1, M, dr, ρ', I1, ar, by simpa using l, b, fun σ2 I2 m2 k2 l2 => k σ2 I2 (m1.trans m2) (fun j hj => ?_) (l2.trans l1)⟩
        simp only [slotss, List.mem_append, not_or] at hj
        exact (k2 j hj.2).trans (k1 j hj.1)
      · cases b
theorem g_tup {es : List Expr} {k : Nat} {ps : List Pt} (hc : X.calm = true) (h : PGs X es (tPs Γ ps)) (hK : X.K = Γ.K := by rfl) (hn : (assignEach es X.env).length = ps.length := by rfl) (hst : (assignEach es X.env).findIdx? (·.1) = none := by rfl) : PG X (.Tuple es k pos) (tP Γ (.tp ps)) :=
  PGimp (pg_tup hc h hn hst) fun v σ H Q ⟨φ, ρ, M, d, ρ', I, a, b, k⟩ => by
    cases a with
    | tup s z r =>
      simp only [bindP] at b
      split at b
      · rename_i hl
        exact ⟨_, _, rfl, by rw [hK]; exact s, by rw [r.length]; exact hl, φ, ρ, M, _, ρ', I, r, hl, b, fun σ' I' m' k' l' => k σ' I' m' (by simpa only [Pt.slots] using k') l'⟩
      · cases b
    | _ => simp only [bindP] at b; cases b
end

/-! ### what is walked -/
def Lay (H H' : Hp) : Prop := H' = H ∨ ∃ p xs, H p = none ∧ H' = upd H p (.tup xs)
/-- what was made since H and is not shared stays -/
def Sta (H : Hp) (φ : List Addr) (ρ : Rho) (σ : L2.St) (H1 H2 : Hp) : Prop := Pers H1 H2 ∧ ∀ p o, H1 p = some o → NT o → p ∉ φ → ¬ Owned ρ σ p → Em (H p) → H2 p = some o
theorem Mono.sta {H0 H H' : Hp} {φ φ' : List Addr} {ρ ρ' : Rho} {σ σ' : L2.St} (m : Mono φ ρ σ H φ' ρ' σ' H') : Sta H0 φ ρ σ H H' := ⟨m.pers, fun p o e nt n no _ => m.keep p o e nt n no⟩
def RW (Γ : Gc) : Rel It (List D) := fun H φ' ρ' σ' H' J ds => ds.length ≤ sizeLine ∧ ∃ (G : Hp → Prop) (Y : Nat → Hp → V → Hp → Prop), Walk J ds.length G Y ∧ G H' ∧ (∀ H2, Sta H φ' ρ' σ' H' H2 → G H2) ∧
  ∀ i H1 x H2 d, ds[i]? = some d → Y i H1 x H2 → G H1 → Lay H1 H2 ∧ ∀ φ1, Pre φ' φ1 → Pers H' H1 → At Γ φ1 H2 x d
instance {Γ : Gc} : RelOk (RW Γ) := ⟨fun f ⟨z, G, Y, wk, g0, gs, yl⟩ => ⟨z, G, Y, wk, g0, fun H2 ⟨s1, s2⟩ => gs H2 ⟨s1, fun p o e nt n no em => s2 p o e nt n no (f p em)⟩, yl⟩⟩
abbrev tI (Γ : Gc) (W : WX) (F : E (List D)) : TI := tX Γ W (RW Γ) F
theorem Lay.pers {H H' : Hp} (h : Lay H H') : Pers H H' := by
  rcases h with rfl | ⟨p, xs, e, rfl⟩
  · exact Pers.refl _
  · exact pers_new e
theorem Lay.inn {Γ : Gc} {φ : List Addr} {ρ : Rho} {M : Mem} {σ : L2.St} {H H' : Hp} (h : Lay H H') (I : In Γ φ ρ M σ H) : In Γ φ ρ M σ H' := by
  rcases h with rfl | ⟨p, xs, e, rfl⟩
  · exact I
  · exact I.new e
theorem Lay.mono {φ : List Addr} {ρ : Rho} {σ : L2.St} {H H' : Hp} (h : Lay H H') : Mono φ ρ σ H φ ρ σ H' := by
  rcases h with rfl | ⟨p, xs, e, rfl⟩
  · exact Mono.refl _ _ _ _
  · exact Mono.new e
theorem PIor {X : Cx} {tg e : Expr} {t u : TI} (h : PI X tg e t) (h' : PI X tg e u) : PI X tg e (fun σ H R => t σ H R ∨ u σ H R) := ⟨fun pins s σ H R I q => q.elim (h.run pins s σ H R I) (h'.run pins s σ H R I)⟩
section
variable {X : Cx} {Γ : Gc} {W : WX} {a b c tg : Expr} {F G G2 : E D} {L L2' : E (List D)} {pos p : Pos} {es : List Expr}
theorem rw_list {φ : List Addr} {ρ : Rho} {σ : L2.St} {H0 H : Hp} {q : Addr} {vs : List V} {ds : List D} (s : SqL Γ.K H q vs) (st : ∀ H2, Sta H0 φ ρ σ H H2 → SqL Γ.K H2 q vs) (z : vs.length ≤ sizeLine) (r : Ats Γ φ H vs ds) : RW Γ H0 φ ρ σ H (Itl Γ.K q) ds := by
  refine ⟨by rw [← r.length]; exact z, _, YAt vs, by rw [← r.length]; exact walk_list, s, st, fun i H1 x H2 d e y g => ?_⟩
  obtain ⟨rfl, y⟩ := y
  refine ⟨.inl rfl, fun φ1 hp hq => ?_⟩
  obtain ⟨v, ev, av⟩ := (r.mono hp hq).get e
  rw [y] at ev; cases ev
  exact av
theorem rw_tup {φ : List Addr} {ρ : Rho} {σ : L2.St} {H0 H : Hp} {q : Addr} {vs : List V} {ds : List D} (s : SqT Γ.K H q vs) (z : vs.length ≤ sizeLine) (r : Ats Γ φ H vs ds) : RW Γ H0 φ ρ σ H (Itt Γ.K q) ds := by
  refine ⟨by rw [← r.length]; exact z, _, YAt vs, by rw [← r.length]; exact walk_tup, s, fun H2 m => m.1.sqT s, fun i H1 x H2 d e y g => ?_⟩
  obtain ⟨rfl, y⟩ := y
  refine ⟨.inl rfl, fun φ1 hp hq => ?_⟩
  obtain ⟨v, ev, av⟩ := (r.mono hp hq).get e
  rw [y] at ev; cases ev
  exact av
theorem i_f (ha : PE X a (tF Γ W L)) (hK : X.K = Γ.K := by rfl) : PI X tg a (tI Γ W L) := PIimp (pi_list ha) fun σ H R ⟨φ, ρ, M, I, h⟩ => by
  refine ⟨φ, ρ, M, I, ?_⟩
  cases e : L ρ M with
  | ok ds ρ' M' =>
    rw [e] at h
    refine fun φ' H' x I' m' ⟨q, vs, ex, n0, n1, no, hp, z, r⟩ => ⟨q, ex, ⟨vs, SqL.of hp⟩, ?_⟩
    rw [hK]
    exact h φ' H' _ I' m' (rw_list (SqL.of hp) (fun H2 m2 => SqL.of (m2.2 q _ hp nt_lst n1 no n0)) z r)
  | exc n t ρ' M' => rw [e] at h; exact h
  | stuck => rw [e] at h; exact h
def strD (z : Str) : List D := z.cps.toList.map fun c => .str ⟨#[c]⟩
def iterOf (d : D) : E (List D) := match d with
  | .tup ds => eOk ds
  | .lst ds => eOk ds
  | .str z => if z.length ≤ sizeLine then eOk (strD z) else eStuck
  | _ => eStuck
def eIter (F : E D) : E (List D) := eBind F iterOf
theorem i_e (ha : PE X a (tE Γ W F)) (hK : X.K = Γ.K := by rfl) : PI X tg a (tI Γ W (eIter F)) := PIimp (PIor (pi_list ha) (PIor (pi_tup ha) (pi_str ha))) fun σ H R ⟨φ, ρ, M, I, h⟩ => by
  rw [hK]
  cases e : F ρ M with
  | ok d ρ' M' =>
    have hb : eIter F ρ M = iterOf d ρ' M' := by unfold eIter eBind; rw [e]; rfl
    rw [hb] at h
    cases d with
    | lst ds =>
      refine .inl ⟨φ, ρ, M, I, ?_⟩
      rw [e]
      intro φ' H' x I' m' a'
      cases a' with
      | lst s z r => exact ⟨_, rfl, ⟨_, s.seq⟩, h φ' H' _ I' m' (rw_list s.seq (fun H2 m2 => (m2.1.fz s).seq) z r)⟩
    | tup ds =>
      refine .inr (.inl ⟨φ, ρ, M, I, ?_⟩)
      rw [e]
      intro φ' H' x I' m' a'
      cases a' with
      | tup s z r => exact ⟨_, rfl, ⟨_, s⟩, h φ' H' _ I' m' (rw_tup s z r)⟩
    | str z =>
      simp only [iterOf] at h
      by_cases hz : z.length ≤ sizeLine
      case neg => rw [if_neg hz] at h; exact h.elim
      rw [if_pos hz] at h
      refine .inr (.inr ⟨φ, ρ, M, I, ?_⟩)
      rw [e]
      intro φ' H' x I' m' a'
      cases a'
      refine ⟨z, rfl, h φ' H' _ I' m' ⟨by
        have hl : (strD z).length = z.cps.size := by simp [strD]
        rw [hl]; exact hz, _, _, by
        have hl : (strD z).length = z.cps.size := by simp [strD]
        rw [hl]; exact walk_str, trivial, fun _ _ => trivial, fun i H1 x H2 d ed y g => ?_⟩⟩
      obtain ⟨rfl, c, ec, rfl⟩ := y
      refine ⟨.inl rfl, fun φ1 hp hq => ?_⟩
      have ed' : d = .str ⟨#[c]⟩ := by
        unfold strD at ed
        rw [List.getElem?_map] at ed
        have : z.cps.toList[i]? = some c := by simpa using ec
        rw [this] at ed
        exact (Option.some.inj ed).symm
      subst ed'
      exact .str _
    | _ => exact h.elim
  | exc n t ρ' M' =>
    have hb : eIter F ρ M = .exc n t ρ' M' := by unfold eIter eBind; rw [e]; rfl
    rw [hb] at h
    refine .inl ⟨φ, ρ, M, I, ?_⟩
    rw [e]
    exact h
  | stuck =>
    have hb : eIter F ρ M = .stuck := by unfold eIter eBind; rw [e]; rfl
    rw [hb] at h
    exact h.elim
/-! range -/
def rangeD (lo : Int) (n : Nat) : List D := (List.range n).map fun (i : Nat) => .int (lo + (i : Int))
theorem rangeD_get {lo : Int} {n i : Nat} {d : D} (h : (rangeD lo n)[i]? = some d) : d = .int (lo + (i : Int)) := by
  unfold rangeD at h
  rw [List.getElem?_map] at h
  obtain ⟨j, e1, e2⟩ := Option.map_eq_some_iff.mp h
  obtain ⟨hj, e3⟩ := List.getElem?_eq_some_iff.mp e1
  rw [List.getElem_range] at e3
  subst e3; exact e2.symm
theorem rw_range {φ : List Addr} {ρ : Rho} {σ : L2.St} {H0 H : Hp} {lo : Int} {n : Nat} (hn : n ≤ sizeLine) : RW Γ H0 φ ρ σ H (Itr lo n) (rangeD lo n) := by
  refine ⟨by simp only [rangeD, List.length_map, List.length_range]; exact hn, _, _, by
    have hl : (rangeD lo n).length = n := by simp [rangeD]
    rw [hl]; exact walk_range, trivial, fun _ _ => trivial, fun i H1 x H2 d ed y g => ?_⟩
  obtain ⟨rfl, rfl⟩ := y
  rw [rangeD_get ed]
  exact ⟨.inl rfl, fun _ _ _ => .int _⟩
def small62 (j : Int) : Bool := decide (-(2 ^ 62) ≤ j) && decide (j < 2 ^ 62)
def fRange1 : List D → Option (List D)
  | [.int j] => if small62 j = true ∧ j.toNat ≤ sizeLine then some (rangeD 0 j.toNat) else none
  | _ => none
def fRange2 : List D → Option (List D)
  | [.int i, .int j] => if (small62 i = true ∧ small62 j = true) ∧ (j - i).toNat ≤ sizeLine then some (rangeD i (j - i).toNat) else none
  | _ => none
def optL (o : Option (List D)) : E (List D) := match o with
  | some d => eOk d
  | none => eStuck
theorem small62_of {j : Int} (h : small62 j = true) : -(2 ^ 62) ≤ j ∧ j < 2 ^ 62 := by
  unfold small62 at h
  rw [Bool.and_eq_true] at h
  exact ⟨of_decide_eq_true h.1, of_decide_eq_true h.2⟩
theorem i_range1 (hg : Gl X "range") (hm : X.mg "range" = none) (ha : PA X [a] (tA Γ W L)) (hs : starEach [a] X.env = [(false, eval a X.env)] := by rfl) : PI X tg (.Call (.Name "range" p) [a] [] pos) (tI Γ W (eBind L fun ds => optL (fRange1 ds))) :=
  PIimp (pi_range1 hg hm ha hs) fun σ H R ⟨φ, ρ, M, I, h⟩ => tX.bind I h fun φ1 ρ1 M1 H1 vs ds I1 m1 r h1 => by
    cases u : fRange1 ds with
    | none => rw [u] at h1; exact h1.elim
    | some xs =>
      rw [u] at h1
      unfold fRange1 at u
      split at u
      · split at u
        · rename_i hz
          cases u
          cases r with | cons h t => cases t; cases h; exact ⟨_, rfl, (small62_of hz.1).1, (small62_of hz.1).2, h1.now I1 (rw_range hz.2)⟩
        · cases u
      · cases u
theorem i_range2 (hg : Gl X "range") (hm : X.mg "range" = none) (ha : PA X [a, b] (tA Γ W L)) (hs : starEach [a, b] X.env = [(false, eval a X.env), (false, eval b X.env)] := by rfl) (hs2 : starEach [b] X.env = [(false, eval b X.env)] := by rfl) :
    PI X tg (.Call (.Name "range" p) [a, b] [] pos) (tI Γ W (eBind L fun ds => optL (fRange2 ds))) :=
  PIimp (pi_range2 hg hm ha hs hs2) fun σ H R ⟨φ, ρ, M, I, h⟩ => tX.bind I h fun φ1 ρ1 M1 H1 vs ds I1 m1 r h1 => by
    cases u : fRange2 ds with
    | none => rw [u] at h1; exact h1.elim
    | some xs =>
      rw [u] at h1
      unfold fRange2 at u
      split at u
      · split at u
        · rename_i hz
          cases u
          cases r with | cons h t => cases t with | cons h2 t2 => cases t2; cases h; cases h2; exact ⟨_, _, rfl, ⟨(small62_of hz.1.1).1, (small62_of hz.1.1).2, (small62_of hz.1.2).1, (small62_of hz.1.2).2⟩, h1.now I1 (rw_range hz.2)⟩
        · cases u
      · cases u
end
end Dn
-- DnComp
/-! Dn: comprehensions. -/
namespace Dn
open PySem L2

def wipeR (ρ : Rho) : List Nat → Rho
  | [] => ρ
  | v :: vs => (wipeR ρ vs).set v .un
theorem wipeR_length (ρ : Rho) : ∀ vs : List Nat, (wipeR ρ vs).length = ρ.length
  | [] => rfl
  | v :: vs => by unfold wipeR; rw [List.length_set, wipeR_length ρ vs]
theorem wipeR_in {ρ : Rho} {i : Nat} : ∀ {vs : List Nat}, i ∈ vs → i < ρ.length → (wipeR ρ vs)[i]? = some .un
  | [], h, _ => absurd h (by simp)
  | v :: vs, h, hl => by
    unfold wipeR
    by_cases hv : v = i
    · subst hv; exact List.getElem?_set_self (by rw [wipeR_length]; exact hl)
    · rw [List.getElem?_set_ne hv]
      exact wipeR_in (by rcases List.mem_cons.mp h with e | e; exact absurd e.symm hv; exact e) hl
theorem wipeR_out {ρ : Rho} {i : Nat} : ∀ {vs : List Nat}, i ∉ vs → (wipeR ρ vs)[i]? = ρ[i]?
  | [], _ => rfl
  | v :: vs, h => by
    unfold wipeR
    simp only [List.mem_cons, not_or] at h
    rw [List.getElem?_set_ne (Ne.symm h.1)]
    exact wipeR_out h.2
theorem wipe_in {σ : L2.St} {i : Nat} : ∀ {vs : List Nat}, i ∈ vs → i < σ.length → (wipe σ vs)[i]? = some none
  | [], h, _ => absurd h (by simp)
  | v :: vs, h, hl => by
    unfold wipe
    by_cases hv : v = i
    · subst hv; exact List.getElem?_set_self (by rw [wipe_length]; exact hl)
    · rw [List.getElem?_set_ne hv]
      exact wipe_in (by rcases List.mem_cons.mp h with e | e; exact absurd e.symm hv; exact e) hl
theorem wipe_not {σ : L2.St} {i : Nat} : ∀ {vs : List Nat}, i ∉ vs → (wipe σ vs)[i]? = σ[i]?
  | [], _ => rfl
  | v :: vs, h => by
    unfold wipe
    simp only [List.mem_cons, not_or] at h
    rw [List.getElem?_set_ne (Ne.symm h.1)]
    exact wipe_not h.2
theorem wipe_eq {σ τ : L2.St} {vs : List Nat} (hl : τ.length = σ.length) (h : ∀ j, j ∉ vs → τ[j]? = σ[j]?) : wipe τ vs = wipe σ vs := by
  refine List.ext_getElem? fun j => ?_
  by_cases hj : j ∈ vs
  · by_cases hs : j < σ.length
    · rw [wipe_in hj (by rw [hl]; exact hs), wipe_in hj hs]
    · rw [List.getElem?_eq_none (by rw [wipe_length]; omega), List.getElem?_eq_none (by rw [wipe_length]; omega)]
  · rw [wipe_not hj, wipe_not hj, h j hj]
/-- the slots at vs as they were -/
def backR (ρ ρ' : Rho) : List Nat → Rho
  | [] => ρ'
  | v :: vs => match ρ[v]? with
    | some s => (backR ρ ρ' vs).set v s
    | none => backR ρ ρ' vs
theorem backR_length (ρ ρ' : Rho) : ∀ vs : List Nat, (backR ρ ρ' vs).length = ρ'.length
  | [] => rfl
  | v :: vs => by
    unfold backR
    split
    · rw [List.length_set, backR_length ρ ρ' vs]
    · exact backR_length ρ ρ' vs
theorem backR_out {ρ ρ' : Rho} {i : Nat} : ∀ {vs : List Nat}, i ∉ vs → (backR ρ ρ' vs)[i]? = ρ'[i]?
  | [], _ => rfl
  | v :: vs, h => by
    unfold backR
    simp only [List.mem_cons, not_or] at h
    split
    · rw [List.getElem?_set_ne (Ne.symm h.1)]; exact backR_out h.2
    · exact backR_out h.2
theorem backR_in {ρ ρ' : Rho} (hl : ρ'.length = ρ.length) {i : Nat} : ∀ {vs : List Nat}, i ∈ vs → (backR ρ ρ' vs)[i]? = ρ[i]?
  | [], h => absurd h (by simp)
  | v :: vs, h => by
    unfold backR
    by_cases hv : v = i
    · subst hv
      split
      · rename_i s e
        rw [List.getElem?_set_self (by rw [backR_length, hl]; exact (List.getElem?_eq_some_iff.mp e).1), e]
      · rename_i e
        rw [e]
        exact List.getElem?_eq_none (by rw [backR_length, hl]; exact List.getElem?_eq_none_iff.mp e)
    · have h' : i ∈ vs := by rcases List.mem_cons.mp h with e | e; exact absurd e.symm hv; exact e
      split
      · rw [List.getElem?_set_ne hv]; exact backR_in hl h'
      · exact backR_in hl h'
section
variable {Γ : Gc} {φ φ' : List Addr} {ρ ρ' : Rho} {M M' : Mem} {σ σ' : L2.St} {H H' : Hp} {vs : List Nat}
theorem In.wipe (I : In Γ φ ρ M σ H) (vs : List Nat) : In Γ φ (wipeR ρ vs) M (L2.wipe σ vs) H := by
  have nv : ∀ {j : Nat} {s : Sl}, (wipeR ρ vs)[j]? = some s → s ≠ .un → j ∉ vs := fun {j s} e n hj => by
    by_cases hl : j < ρ.length
    · rw [wipeR_in hj hl] at e; cases e; exact n rfl
    · rw [List.getElem?_eq_none (by rw [wipeR_length]; omega)] at e; cases e
  refine ⟨by rw [wipe_length, wipeR_length]; exact I.len, fun j d e => ?_, fun j c e => ?_, fun j k b c q ej ek sj sk => ?_, I.rl, I.nd, I.mem, I.j⟩
  · have h := nv e (fun z => nomatch z)
    rw [wipeR_out h] at e
    rw [wipe_not h]
    exact I.val j d e
  · have h := nv e (fun z => nomatch z)
    rw [wipeR_out h] at e
    rw [wipe_not h]
    exact I.own j c e
  · have h1 := nv ej (fun z => nomatch z)
    have h2 := nv ek (fun z => nomatch z)
    rw [wipeR_out h1] at ej
    rw [wipeR_out h2] at ek
    rw [wipe_not h1] at sj
    rw [wipe_not h2] at sk
    exact I.sep j k b c q ej ek sj sk
theorem Mono.wipe : Mono φ ρ σ H φ (wipeR ρ vs) (L2.wipe σ vs) H := Mono.slots fun p ⟨j, c, ej, sj⟩ => by
  have h : j ∉ vs := fun hj => by
    by_cases hl : j < ρ.length
    · rw [wipeR_in hj hl] at ej; cases ej
    · rw [List.getElem?_eq_none (by rw [wipeR_length]; omega)] at ej; cases ej
  rw [wipeR_out h] at ej
  rw [wipe_not h] at sj
  exact .inl ⟨j, c, ej, sj⟩
/-- behind a comprehension: its own slots as they were -/
theorem In.unwipe (I0 : In Γ φ ρ M σ H) (I : In Γ φ' ρ' M' (L2.wipe σ vs) H') (m : Mono φ (wipeR ρ vs) (L2.wipe σ vs) H φ' ρ' (L2.wipe σ vs) H') : In Γ φ' (backR ρ ρ' vs) M' σ H' := by
  have hl : ρ'.length = ρ.length := by rw [← I.len, wipe_length, I0.len]
  have lift : ∀ {p : Addr} {o : MO} {j : Nat}, j ∈ vs → ρ[j]? = some (.own o) → σ[j]? = some (some (V.ref p)) → MoAt Γ φ H p o → p ∉ φ → MoAt Γ φ' H' p o ∧ p ∉ φ' ∧ ¬ Owned ρ' (L2.wipe σ vs) p := fun {p o j} hj ej sj mo np => by
    have now : ¬ Owned (wipeR ρ vs) (L2.wipe σ vs) p := fun ⟨k, c, ek, sk⟩ => by
      have hk : k ∉ vs := fun z => by
        by_cases hl : k < ρ.length
        · rw [wipeR_in z hl] at ek; cases ek
        · rw [List.getElem?_eq_none (by rw [wipeR_length]; omega)] at ek; cases ek
      rw [wipeR_out hk] at ek
      rw [wipe_not hk] at sk
      exact hk (I0.sep j k o c p ej ek sj sk ▸ hj)
    obtain ⟨u, hu⟩ := mo.soft.is
    have nt : NT u := fun ps z => by
      subst z
      have := mo.soft
      rw [hu] at this
      rcases this with ⟨_, q⟩ | ⟨_, q⟩ <;> cases q
    have e := m.keep p u hu nt np now
    refine ⟨mo.move m.pre m.pers fun v ev => ?_, fun z => ?_, fun z => ?_⟩
    · rw [hu] at ev; cases ev; exact e
    · exact m.fresh p z np _ hu nt
    · rcases m.shr p z with q | q
      · exact now q
      · exact q _ hu nt
  refine ⟨by rw [backR_length, hl]; exact I0.len, fun j d e => ?_, fun j c e => ?_, fun j k b c q ej ek sj sk => ?_, I.rl, I.nd, I.mem, I.j⟩
  · by_cases hj : j ∈ vs
    · rw [backR_in hl hj] at e
      obtain ⟨v, s, a⟩ := I0.val j d e
      exact ⟨v, s, a.mono m.pre m.pers⟩
    · rw [backR_out hj] at e
      obtain ⟨v, s, a⟩ := I.val j d e
      rw [wipe_not hj] at s
      exact ⟨v, s, a⟩
  · by_cases hj : j ∈ vs
    · rw [backR_in hl hj] at e
      obtain ⟨p, s, mo, np⟩ := I0.own j c e
      obtain ⟨h1, h2, _⟩ := lift hj e s mo np
      exact ⟨p, s, h1, h2⟩
    · rw [backR_out hj] at e
      obtain ⟨p, s, mo, np⟩ := I.own j c e
      rw [wipe_not hj] at s
      exact ⟨p, s, mo, np⟩
  · by_cases hj : j ∈ vs <;> by_cases hk : k ∈ vs
    · rw [backR_in hl hj] at ej
      rw [backR_in hl hk] at ek
      exact I0.sep j k b c q ej ek sj sk
    · rw [backR_in hl hj] at ej
      rw [backR_out hk] at ek
      obtain ⟨p, s, mo, np⟩ := I0.own j b ej
      rw [sj] at s; cases s
      exact absurd ⟨k, c, ek, by rw [wipe_not hk]; exact sk⟩ (lift hj ej sj mo np).2.2
    · rw [backR_out hj] at ej
      rw [backR_in hl hk] at ek
      obtain ⟨p, s, mo, np⟩ := I0.own k c ek
      rw [sk] at s; cases s
      exact absurd ⟨j, b, ej, by rw [wipe_not hj]; exact sj⟩ (lift hk ek sk mo np).2.2
    · rw [backR_out hj] at ej
      rw [backR_out hk] at ek
      exact I.sep j k b c q ej ek (by rw [wipe_not hj]; exact sj) (by rw [wipe_not hk]; exact sk)
theorem Mono.unwipe (I0 : In Γ φ ρ M σ H) (I : In Γ φ' ρ' M' (L2.wipe σ vs) H') (m : Mono φ (wipeR ρ vs) (L2.wipe σ vs) H φ' ρ' (L2.wipe σ vs) H') : Mono φ ρ σ H φ' (backR ρ ρ' vs) σ H' where
  pre := m.pre
  fresh := m.fresh
  pers := m.pers
  keep := fun p o e nt n no => m.keep p o e nt n fun z => by
    rcases (Mono.wipe (φ := φ) (ρ := ρ) (σ := σ) (H := H) (vs := vs)).shr p z with q | q
    · exact no q
    · exact q _ e nt
  live := m.live
  shr := fun p ⟨j, c, ej, sj⟩ => by
    have hl : ρ'.length = ρ.length := by rw [← I.len, wipe_length, I0.len]
    by_cases hj : j ∈ vs
    · rw [backR_in hl hj] at ej
      exact .inl ⟨j, c, ej, sj⟩
    · rw [backR_out hj] at ej
      rcases m.shr p ⟨j, c, ej, by rw [wipe_not hj]; exact sj⟩ with q | q
      · exact (Mono.wipe (φ := φ) (ρ := ρ) (σ := σ) (H := H) (vs := vs)).shr p q
      · exact .inr q
end

/-! ### [elt for target in iter if ..] -/
/-- the turns, the slots at vs forgotten ahead of each -/
def compGo {α : Type} (vs : List Nat) (pt : Pt) (C : E Bool) (T : E α) : List D → E (List α)
  | [] => eOk []
  | d :: ds => fun ρ M => match bindP pt d (wipeR ρ vs) with
    | none => .stuck
    | some ρ1 => ((C ρ1 M).noExc).bind fun b ρ2 M2 => if b = true then ((T ρ2 M2).noExc).bind fun x ρ3 M3 => (compGo vs pt C T ds ρ3 M3).bind fun xs ρ4 M4 => .ok (x :: xs) ρ4 M4 else compGo vs pt C T ds ρ2 M2
def eComp (vs : List Nat) (S : E (List D)) (pt : Pt) (C : E Bool) (T : E D) : E (List D) := eBind S fun ds ρ M => ((compGo vs pt C T ds ρ M).noExc).bind fun xs ρ' M' => .ok xs (backR ρ ρ' vs) M'
/-- nothing is let out of a block -/
abbrev W0 : WX := fun _ _ _ _ => False
section
variable {X : Cx} {Γ : Gc} {W : WX} {tg it elt : Expr} {ifs : List Expr} {scope : Scope} {own : List (Str × Nat)} {S : E (List D)} {pt : Pt} {C : E Bool} {T : E D} {pos : Pos}
theorem c_yes : PTs X [] (tB' Γ W (eOk true)) := PTsimp pts_nil fun σ H Q ⟨φ, ρ, M, I, h⟩ => h.now I rfl
theorem c_if {c : Expr} (h : PT X c (tB' Γ W C)) : PTs X [c] (tB' Γ W C) := pts_one h
theorem compGo_len {vs : List Nat} : ∀ {ds : List D} {ρ ρ' : Rho} {M M' : Mem} {xs : List D}, compGo vs pt C T ds ρ M = .ok xs ρ' M' → xs.length ≤ ds.length
  | [], ρ, ρ', M, M', xs, h => by simp only [compGo, eOk] at h; cases h; exact Nat.le_refl _
  | d :: ds, ρ, ρ', M, M', xs, h => by
    simp only [compGo] at h
    split at h
    · cases h
    · rename_i ρ1 e1
      cases ec : (C ρ1 M).noExc with
      | ok b ρ2 M2 =>
        rw [ec] at h
        simp only [R.bind] at h
        split at h
        · cases et : (T ρ2 M2).noExc with
          | ok x ρ3 M3 =>
            rw [et] at h
            simp only [R.bind] at h
            cases er : compGo vs pt C T ds ρ3 M3 with
            | ok ys ρ4 M4 =>
              rw [er] at h
              simp only [R.bind] at h
              cases h
              have := compGo_len er
              simp only [List.length_cons]; omega
            | exc _ _ _ _ => rw [er] at h; cases h
            | stuck => rw [er] at h; cases h
          | exc _ _ _ _ => rw [et] at h; cases h
          | stuck => rw [et] at h; cases h
        · have := compGo_len h
          simp only [List.length_cons]; omega
      | exc _ _ _ _ => rw [ec] at h; cases h
      | stuck => rw [ec] at h; cases h
theorem wipe_wipe {σ : L2.St} {vs : List Nat} : wipe (wipe σ vs) vs = wipe σ vs := wipe_eq (wipe_length _ _) fun j hj => wipe_not hj
theorem backR_wipe {ρ ρ' : Rho} {vs : List Nat} (hl : ρ'.length = ρ.length) : backR ρ (wipeR ρ' vs) vs = backR ρ ρ' vs := by
  refine List.ext_getElem? fun j => ?_
  by_cases hj : j ∈ vs
  · rw [backR_in (by rw [wipeR_length]; exact hl) hj, backR_in hl hj]
  · rw [backR_out hj, backR_out hj, wipeR_out hj]
theorem owned_wipe {ρ : Rho} {σ : L2.St} {vs : List Nat} {p : Addr} (h : Owned (wipeR ρ vs) (wipe σ vs) p) : Owned ρ σ p := by
  obtain ⟨j, c, ej, sj⟩ := h
  have h : j ∉ vs := fun hj => by
    by_cases hl : j < ρ.length
    · rw [wipeR_in hj hl] at ej; cases ej
    · rw [List.getElem?_eq_none (by rw [wipeR_length]; omega)] at ej; cases ej
  rw [wipeR_out h] at ej
  rw [wipe_not h] at sj
  exact ⟨j, c, ej, sj⟩
/-- an object that nobody else bears may turn -/
theorem In.poke {φ : List Addr} {ρ : Rho} {M : Mem} {σ : L2.St} {H : Hp} {p : Addr} {o : HO} (I : In Γ φ ρ M σ H) (sf : Soft (H p)) (n : p ∉ φ) (no : ¬ Owned ρ σ p) : In Γ φ ρ M σ (upd H p o) := by
  have ps : Pers H (upd H p o) := ⟨fun q xs e => by rw [upd_ne (sf.ne e not_soft_tup)]; exact e, fun q _ _ e => by rw [upd_ne (sf.ne e not_soft_frz)]; exact e⟩
  refine ⟨I.len, fun i d e => ?_, fun i c e => ?_, I.sep, I.rl, I.nd, fun i c e => ?_, Γ.stab _ _ _ (.inr sf) I.j⟩
  · obtain ⟨v, s, a⟩ := I.val i d e
    exact ⟨v, s, a.mono (Pre.refl _) ps⟩
  · obtain ⟨q, s, m, nn⟩ := I.own i c e
    have nq : q ≠ p := by rintro rfl; exact no ⟨i, c, e, s⟩
    exact ⟨q, s, m.move (Pre.refl _) ps fun u e => by rw [upd_ne nq]; exact e, nn⟩
  · obtain ⟨q, s, m⟩ := I.mem i c e
    have nq : q ≠ p := by rintro rfl; exact n (List.mem_of_getElem? s)
    exact ⟨q, s, m.move (Pre.refl _) ps fun u e => by rw [upd_ne nq]; exact e⟩
theorem poke_pers {H : Hp} {p : Addr} {o : HO} (sf : Soft (H p)) : Pers H (upd H p o) := ⟨fun q xs e => by rw [upd_ne (sf.ne e not_soft_tup)]; exact e, fun q _ _ e => by rw [upd_ne (sf.ne e not_soft_frz)]; exact e⟩
theorem noExc_ok {α : Type} {r : R α} {a : α} {ρ : Rho} {M : Mem} (h : r.noExc = .ok a ρ M) : r = .ok a ρ M := by
  cases r with
  | ok _ _ _ => exact h
  | exc _ _ _ _ => cases h
  | stuck => cases h
/-- what a turn of compGo is -/
theorem compGo_step {α : Type} {vs : List Nat} {pt : Pt} {C : E Bool} {T : E α} {d : D} {ds : List D} {ρ ρe : Rho} {M Me : Mem} {xs : List α} (h : compGo vs pt C T (d :: ds) ρ M = .ok xs ρe Me) :
    ∃ ρ1, bindP pt d (wipeR ρ vs) = some ρ1 ∧ ∃ b ρ2 M2, C ρ1 M = .ok b ρ2 M2 ∧ (b = true → ∃ x ρ3 M3 ys, T ρ2 M2 = .ok x ρ3 M3 ∧ compGo vs pt C T ds ρ3 M3 = .ok ys ρe Me ∧ xs = x :: ys) ∧ (b = false → compGo vs pt C T ds ρ2 M2 = .ok xs ρe Me) := by
  simp only [compGo] at h
  split at h
  · cases h
  · rename_i ρ1 e1
    refine ⟨ρ1, e1, ?_⟩
    cases ec : (C ρ1 M).noExc with
    | ok b ρ2 M2 =>
      rw [ec] at h
      simp only [R.bind] at h
      refine ⟨b, ρ2, M2, noExc_ok ec, fun hb => ?_, fun hb => ?_⟩
      · rw [if_pos hb] at h
        cases et : (T ρ2 M2).noExc with
        | ok x ρ3 M3 =>
          rw [et] at h
          simp only [R.bind] at h
          cases er : compGo vs pt C T ds ρ3 M3 with
          | ok ys ρ4 M4 =>
            rw [er] at h
            simp only [R.bind] at h
            cases h
            exact ⟨x, ρ3, M3, ys, noExc_ok et, er, rfl⟩
          | exc _ _ _ _ => rw [er] at h; cases h
          | stuck => rw [er] at h; cases h
        | exc _ _ _ _ => rw [et] at h; cases h
        | stuck => rw [et] at h; cases h
      · rw [if_neg (by rw [hb]; exact Bool.false_ne_true)] at h
        exact h
    | exc _ _ _ _ => rw [ec] at h; cases h
    | stuck => rw [ec] at h; cases h
/-- where the turns stand -/
structure CompW (Γ : Gc) (vs : List Nat) (pt : Pt) (C : E Bool) (T : E D) (σ : L2.St) (φ1 : List Addr) (ρ1 : Rho) (H1 : Hp) (Dl : Addr) (ds xs : List D) (ρe : Rho) (Me : Mem) (i : Nat) (H' : Hp) : Prop where
  ex : ∃ φi ρi Mi acc accD rest, H' Dl = some (.lst acc) ∧ acc.length ≤ i ∧ Dl ∉ φi ∧ In Γ φi (wipeR ρi vs) Mi (wipe σ vs) H' ∧ Mono φ1 (wipeR ρ1 vs) (wipe σ vs) H1 φi (wipeR ρi vs) (wipe σ vs) H' ∧
    ¬ Owned (wipeR ρi vs) (wipe σ vs) Dl ∧ Ats Γ φi H' acc accD ∧ compGo vs pt C T (ds.drop i) ρi Mi = .ok rest ρe Me ∧ accD ++ rest = xs
theorem comp_read {wi : TI} (hi : ∀ σ H R, tI Γ W S σ H R → wi σ H R) (hv : ∀ j, j ∈ pt.slots → j ∈ own.map (·.2)) : ∀ (σ : L2.St) (H : Hp) (Q : VK), tF Γ W (eComp (own.map (·.2)) S pt C T) σ H Q → tLc wi (tP Γ pt) (tB' Γ W0 C) (tE Γ W0 T) (own.map (·.2)) σ H Q :=
  fun σ H Q ⟨φ, ρ, M, I, h⟩ => hi _ _ _ <| tX.bind I h fun φ1 ρ1 M1 H1 J ds I1 m1 rw h1 => by
    intro Dl hD
    cases eg : (compGo (own.map (·.2)) pt C T ds ρ1 M1).noExc with
    | exc _ _ _ _ => exfalso; cases u : compGo (own.map (·.2)) pt C T ds ρ1 M1 <;> rw [u] at eg <;> cases eg
    | stuck => rw [eg] at h1; exact h1.elim
    | ok xs ρe Me =>
      rw [eg] at h1
      have eg' := noExc_ok eg
      obtain ⟨hz, G, Y, wk, g0, gs, yl⟩ := rw
      refine lc_it (G := G) (Y := Y) wk (CompW Γ (own.map (·.2)) pt C T σ φ1 ρ1 H1 Dl ds xs ρe Me) ⟨φ1, ρ1, M1, [], [], xs, upd_same, Nat.le_refl _, I1.notIn hD, (I1.wipe _).new hD, Mono.new hD, (I1.wipe _).notOwned hD, .nil, eg', rfl⟩ (fun i H' _ cw => ?_) (fun i x H' H2 hi' cw y => ?_) fun H' cw => ?_
      · obtain ⟨φi, ρi, Mi, acc, accD, rest, hp, hl, nD, Ii, mi, no, r, eq, ea⟩ := cw.ex
        exact gs _ (Mono.wipe.trans mi).sta
      · obtain ⟨φi, ρi, Mi, acc, accD, rest, hp, hl, nD, Ii, mi, no, r, eq, ea⟩ := cw.ex
        have hdi : ds[i]? = some ds[i] := List.getElem?_eq_getElem hi'
        have hdrop : ds.drop i = ds[i] :: ds.drop (i + 1) := List.drop_eq_getElem_cons hi'
        rw [hdrop] at eq
        obtain ⟨ρt, eb, b, ρ2, M2, ec, hT, hF⟩ := compGo_step eq
        obtain ⟨lay, at1⟩ := yl i H' x H2 _ hdi y (gs _ (Mono.wipe.trans mi).sta)
        have hp2 : H2 Dl = some (.lst acc) := by
          rcases lay with rfl | ⟨q, ys, e, rfl⟩
          · exact hp
          · rw [upd_ne (ne_of_none hp e)]; exact hp
        refine ⟨φi, wipeR ρi _, Mi, _, ρt, lay.inn Ii, at1 φi mi.pre mi.pers, eb, fun σ2 I2 m2 k2 l2 => ?_⟩
        have hw : wipe σ2 (own.map (·.2)) = wipe σ (own.map (·.2)) := by
          rw [← wipe_wipe (σ := σ)]
          exact wipe_eq l2 fun j hj => k2 j fun z => hj (hv j z)
        have m12 : Mono φi (wipeR ρi (own.map (·.2))) (wipe σ (own.map (·.2))) H' φi ρt σ2 H2 := lay.mono.trans m2
        refine ⟨hw, φi, ρt, Mi, I2, ?_⟩
        rw [ec]
        intro φ3 H3 b' I3 m3 e3
        have e3' : b' = b := e3
        subst e3'
        have m13 := m12.trans m3
        have kp : ∀ {φ4 : List Addr} {ρ4 : Rho} {H4 : Hp}, Mono φi (wipeR ρi (own.map (·.2))) (wipe σ (own.map (·.2))) H' φ4 ρ4 σ2 H4 → H4 Dl = some (.lst acc) ∧ Dl ∉ φ4 ∧ ¬ Owned ρ4 σ2 Dl := fun m => by
          refine ⟨m.keep Dl _ hp (fun _ z => nomatch z) nD no, fun z => ?_, fun z => ?_⟩
          · exact m.fresh Dl z nD _ hp nt_lst
          · rcases m.shr Dl z with q | q
            · exact no q
            · exact q _ hp nt_lst
        cases hbv : b' with
        | true =>
          rw [if_pos rfl]
          obtain ⟨x', ρ3, M3, ys, et, er, ex⟩ := hT hbv
          refine ⟨φ3, ρ2, M2, I3, ?_⟩
          rw [et]
          intro φ4 H4 y4 I4 m4 a4
          have m14 := m13.trans m4
          obtain ⟨hp4, n4, no4⟩ := kp m14
          have sf : Soft (H4 Dl) := .inl ⟨_, hp4⟩
          refine ⟨acc, hp4, by omega, ⟨φ4, ρ3, M3, acc ++ [y4], accD ++ [x'], ys, upd_same, by rw [List.length_append, List.length_singleton]; omega, n4, ?_, ?_, fun z => no4 (owned_wipe (by rw [hw]; exact z)), ?_, er, by rw [List.append_assoc, ← ea, ex]; rfl⟩⟩
          · have := (I4.poke (o := .lst (acc ++ [y4])) sf n4 no4).wipe (own.map (·.2))
            rw [hw] at this
            exact this
          · have mw := Mono.wipe (φ := φ4) (ρ := ρ3) (σ := σ2) (H := H4) (vs := own.map (·.2))
            rw [hw] at mw
            exact ((mi.trans m14).trans mw).late (.none hD) nt_lst ⟨_, hp4⟩
          · exact (((r.mono m14.pre m14.pers).append (.cons a4 .nil))).mono (Pre.refl _) (poke_pers sf)
        | false =>
          rw [if_neg Bool.false_ne_true]
          obtain ⟨hp3, n3, no3⟩ := kp m13
          refine ⟨φ3, ρ2, M2, acc, accD, rest, hp3, by omega, n3, ?_, ?_, fun z => no3 (owned_wipe (by rw [hw]; exact z)), r.mono m13.pre m13.pers, hF hbv, ea⟩
          · have := I3.wipe (own.map (·.2))
            rw [hw] at this
            exact this
          · have mw := Mono.wipe (φ := φ3) (ρ := ρ2) (σ := σ2) (H := H3) (vs := own.map (·.2))
            rw [hw] at mw
            exact (mi.trans m13).trans mw
      · obtain ⟨φi, ρi, Mi, acc, accD, rest, hp, hl, nD, Ii, mi, no, r, eq, ea⟩ := cw.ex
        rw [List.drop_length] at eq
        simp only [compGo, eOk] at eq
        cases eq
        have hlen' : ρe.length = ρ1.length := by
          have := Ii.len
          rw [wipe_length, wipeR_length, I1.len] at this
          exact this.symm
        have U := In.unwipe I1 Ii mi
        have V := Mono.unwipe I1 Ii mi
        rw [backR_wipe hlen'] at U V
        refine h1 φi H' _ U V ⟨Dl, acc, rfl, .none hD, nD, fun ⟨j, c, ej, sj⟩ => ?_, hp, by omega, by rw [← ea, List.append_nil]; exact r⟩
        by_cases hj : j ∈ own.map (·.2)
        · rw [backR_in hlen' hj] at ej
          exact I1.notOwned hD ⟨j, c, ej, sj⟩
        · rw [backR_out hj] at ej
          exact no ⟨j, c, by rw [wipeR_out hj]; exact ej, by rw [wipe_not hj]; exact sj⟩
theorem f_comp (hc : X.calm = true) (hN : X.N.Nodup) (hi : PI X tg it (tI Γ W S)) (ok : BlkOk X.N X.env.scope scope own)
    (hg : ∀ (s : Shared) (H : Hp) (C : Addr) (cl : List (Str × Addr)) (fp : List Addr), PG (X.blk s H scope (compEnvC scope cl C X.env) fp) tg (tP Γ pt))
    (ht : ∀ (s : Shared) (H : Hp) (Ca : Addr) (cl : List (Str × Addr)) (fp : List Addr), PTs (X.blk s H scope (compEnvC scope cl Ca X.env) fp) ifs (tB' Γ W0 C))
    (he : ∀ (s : Shared) (H : Hp) (C : Addr) (cl : List (Str × Addr)) (fp : List Addr), PE (X.blk s H scope (compEnvC scope cl C X.env) fp) elt (tE Γ W0 T))
    (hv : ∀ j, j ∈ pt.slots → j ∈ own.map (·.2)) (hs : ∀ x, foldedSetIterable it X.env x = pure x := by intro _; rfl) :
    PE X (.ListComp elt [⟨tg, it, ifs, 0⟩] scope pos) (tF Γ W (eComp (own.map (·.2)) S pt C T)) := PEimp (pe_lc hc hN hi ok hg ht he hs) (comp_read (fun _ _ _ q => q) hv)
end
end Dn
-- DnStmt
/-! Dn: statements, defs, calls. -/
namespace Dn
open PySem L2

inductive Oc where
  | nx (ρ : Rho) (M : Mem)
  | ret (d : D) (ρ : Rho) (M : Mem)
  | brk (ρ : Rho) (M : Mem)
  | cnt (ρ : Rho) (M : Mem)
  | exc (n : Str) (t : D) (ρ : Rho) (M : Mem)
  | stuck
abbrev FS := Rho → Mem → Oc
def R.thn {α : Type} : R α → (α → FS) → Oc
  | .ok a ρ M, f => f a ρ M
  | .exc n t ρ M, _ => .exc n t ρ M
  | .stuck, _ => .stuck
def Oc.seq : Oc → FS → Oc
  | .nx ρ M, f => f ρ M
  | o, _ => o
def sSeq (F G : FS) : FS := fun ρ M => (F ρ M).seq G
def sNx : FS := fun ρ M => .nx ρ M
def OutS (Γ : Gc) (W : WX) (φ : List Addr) (ρ : Rho) (σ : L2.St) (H : Hp) (Dn : Ends) : Oc → Prop
  | .nx ρ' M' => ∀ φ' H' σ', In Γ φ' ρ' M' σ' H' → Mono φ ρ σ H φ' ρ' σ' H' → Dn.nx σ' H'
  | .ret d ρ' M' => ∀ φ' H' σ' v, In Γ φ' ρ' M' σ' H' → Mono φ ρ σ H φ' ρ' σ' H' → At Γ φ' H' v d → Dn.rt v H'
  | .brk ρ' M' => ∀ φ' H' σ', In Γ φ' ρ' M' σ' H' → Mono φ ρ σ H φ' ρ' σ' H' → Dn.bk σ' H'
  | .cnt ρ' M' => ∀ φ' H' σ', In Γ φ' ρ' M' σ' H' → Mono φ ρ σ H φ' ρ' σ' H' → Dn.ct σ' H'
  | .exc n t ρ' M' => ∀ φ' H' σ' x v c, In Γ φ' ρ' M' σ' H' → Mono φ ρ σ H φ' ρ' σ' H' → Γ.mg n = some (.ref c) → H' x = some (.xd [(("thing" : Str), v)]) → At Γ φ' H' v t → W (.ref c) (some x) σ' H'
  | .stuck => False
def tS (Γ : Gc) (W : WX) (F : FS) : TS := fun Dn σ H => ∃ φ ρ M, In Γ φ ρ M σ H ∧ OutS Γ W φ ρ σ H Dn (F ρ M)
section
variable {Γ : Gc} {W : WX} {σ σ1 : L2.St} {φ φ1 : List Addr} {ρ ρ1 : Rho} {M M1 : Mem} {H H1 H' : Hp} {α β : Type} {Dn : Ends}
theorem OutS.from {o : Oc} (m : Mono φ ρ σ H φ1 ρ1 σ1 H1) (h : OutS Γ W φ ρ σ H Dn o) : OutS Γ W φ1 ρ1 σ1 H1 Dn o := by
  cases o with
  | nx ρ' M' => exact fun φ' H' σ' I' m' => h φ' H' σ' I' (m.trans m')
  | ret d ρ' M' => exact fun φ' H' σ' v I' m' a => h φ' H' σ' v I' (m.trans m') a
  | brk ρ' M' => exact fun φ' H' σ' I' m' => h φ' H' σ' I' (m.trans m')
  | cnt ρ' M' => exact fun φ' H' σ' I' m' => h φ' H' σ' I' (m.trans m')
  | exc n t ρ' M' => exact fun φ' H' σ' x v c I' m' => h φ' H' σ' x v c I' (m.trans m')
  | stuck => exact h
theorem tX.thn {Rl : Rel β α} {F : E α} {k : α → FS} {Q' : β → Hp → Prop} (I : In Γ φ ρ M σ H) (h : OutS Γ W φ ρ σ H Dn ((F ρ M).thn k))
    (c : ∀ φ1 ρ1 M1 H1 b a, In Γ φ1 ρ1 M1 σ H1 → Mono φ ρ σ H φ1 ρ1 σ H1 → Rl H φ1 ρ1 σ H1 b a → OutS Γ W φ1 ρ1 σ H1 Dn (k a ρ1 M1) → Q' b H1) : tX Γ W Rl F σ H Q' := by
  refine ⟨φ, ρ, M, I, ?_⟩
  cases e : F ρ M with
  | ok a ρ' M' =>
    rw [e] at h
    exact fun φ' H' b I' m' r' => c φ' ρ' M' H' b a I' m' r' (h.from m')
  | exc n t ρ' M' => rw [e] at h; exact fun φ' H' x v c I' m' => h φ' H' σ x v c I' m'
  | stuck => rw [e] at h; exact h
theorem tX.thn0 {Rl : Rel β α} {F : E α} {k : α → FS} {Q' : β → Hp → Prop} (I : In Γ φ ρ M σ H) (h : OutS Γ W φ ρ σ H Dn ((F ρ M).thn k))
    (c : ∀ φ1 ρ1 M1 H1 b a, In Γ φ1 ρ1 M1 σ H1 → Mono φ ρ σ H φ1 ρ1 σ H1 → Rl H φ1 ρ1 σ H1 b a → OutS Γ W φ ρ σ H Dn (k a ρ1 M1) → Q' b H1) : tX Γ W Rl F σ H Q' := by
  refine ⟨φ, ρ, M, I, ?_⟩
  cases e : F ρ M with
  | ok a ρ' M' =>
    rw [e] at h
    exact fun φ' H' b I' m' r' => c φ' ρ' M' H' b a I' m' r' h
  | exc n t ρ' M' => rw [e] at h; exact fun φ' H' x v c I' m' => h φ' H' σ x v c I' m'
  | stuck => rw [e] at h; exact h
theorem tX.thnB {Rl : Rel β α} {F : E α} {k : α → FS} {Q' : β → Hp → Prop} (I : In Γ φ1 ρ1 M1 σ1 H1) (mb : Mono φ ρ σ H φ1 ρ1 σ1 H1) (h : OutS Γ W φ ρ σ H Dn ((F ρ1 M1).thn k))
    (c : ∀ φ2 ρ2 M2 H2 b a, In Γ φ2 ρ2 M2 σ1 H2 → Mono φ1 ρ1 σ1 H1 φ2 ρ2 σ1 H2 → Rl H1 φ2 ρ2 σ1 H2 b a → OutS Γ W φ ρ σ H Dn (k a ρ2 M2) → Q' b H2) : tX Γ W Rl F σ1 H1 Q' := by
  refine ⟨φ1, ρ1, M1, I, ?_⟩
  cases e : F ρ1 M1 with
  | ok a ρ' M' =>
    rw [e] at h
    exact fun φ' H' b I' m' r' => c φ' ρ' M' H' b a I' m' r' h
  | exc n t ρ' M' => rw [e] at h; exact fun φ' H' x v c I' m' => h φ' H' σ1 x v c I' (mb.trans m')
  | stuck => rw [e] at h; exact h
end
section
variable {X : Cx} {Γ : Gc} {W : WX} {st : Stmt} {rest body : List Stmt} {e c tg it : Expr} {F : E D} {L : E (List D)} {T : E Bool} {A B : FS} {pos : Pos} {pt : Pt}
theorem s_nil : PSs X [] (tS Γ W sNx) := PSsimp pss_nil fun Dn σ H ⟨φ, ρ, M, I, h⟩ => h φ H σ I (Mono.refl _ _ _ _)
theorem s_cons (h1 : PS X st (tS Γ W A)) (h2 : PSs X rest (tS Γ W B)) : PSs X (st :: rest) (tS Γ W (sSeq A B)) := PSsimp (pss_cons h1 h2) fun Dn σ H ⟨φ, ρ, M, I, h⟩ => by
  refine ⟨φ, ρ, M, I, ?_⟩
  unfold sSeq at h
  cases ea : A ρ M with
  | nx ρ' M' =>
    rw [ea] at h
    exact fun φ' H' σ' I' m' => ⟨φ', ρ', M', I', h.from m'⟩
  | ret d ρ' M' => rw [ea] at h; exact h
  | brk ρ' M' => rw [ea] at h; exact h
  | cnt ρ' M' => rw [ea] at h; exact h
  | exc n t ρ' M' => rw [ea] at h; exact h
  | stuck => rw [ea] at h; exact h
theorem s_one (h1 : PS X st (tS Γ W A)) : PSs X [st] (tS Γ W A) := pss_one h1
def sDrop (F : E D) : FS := fun ρ M => (F ρ M).thn fun _ => sNx
theorem s_expr (he : PE X e (tE Γ W F)) (hs : swapsWith e none pos.line X.env = pure false := by rfl) : PS X (.Expr e pos) (tS Γ W (sDrop F)) := PSimp (ps_expr he hs) fun Dn σ H ⟨φ, ρ, M, I, h⟩ =>
  tX.thn I h fun φ1 ρ1 M1 H1 b a I1 m1 r h1 => h1 φ1 H1 σ I1 (Mono.refl _ _ _ _)
def sRet (F : E D) : FS := fun ρ M => (F ρ M).thn fun d ρ M => .ret d ρ M
theorem s_ret (he : PE X e (tE Γ W F)) : PS X (.Return (some e) pos) (tS Γ W (sRet F)) := PSimp (ps_ret he) fun Dn σ H ⟨φ, ρ, M, I, h⟩ =>
  tX.thn I h fun φ1 ρ1 M1 H1 b a I1 m1 r h1 => h1 φ1 H1 σ b I1 (Mono.refl _ _ _ _) r
def sRetN : FS := fun ρ M => .ret .non ρ M
theorem s_retN : PS X (.Return none pos) (tS Γ W sRetN) := PSimp ps_retN fun Dn σ H ⟨φ, ρ, M, I, h⟩ => h φ H σ _ I (Mono.refl _ _ _ _) .non
theorem s_pass : PS X (.Pass pos) (tS Γ W sNx) := PSimp ps_pass fun Dn σ H ⟨φ, ρ, M, I, h⟩ => h φ H σ I (Mono.refl _ _ _ _)
def sBrk : FS := fun ρ M => .brk ρ M
def sCnt : FS := fun ρ M => .cnt ρ M
theorem s_break : PS X (.Break pos) (tS Γ W sBrk) := PSimp ps_break fun Dn σ H ⟨φ, ρ, M, I, h⟩ => h φ H σ I (Mono.refl _ _ _ _)
theorem s_continue : PS X (.Continue pos) (tS Γ W sCnt) := PSimp ps_continue fun Dn σ H ⟨φ, ρ, M, I, h⟩ => h φ H σ I (Mono.refl _ _ _ _)
def sIf (T : E Bool) (A B : FS) : FS := fun ρ M => (T ρ M).thn fun b => if b = true then A else B
theorem s_if (hc : PT X c (tB' Γ W T)) (ha : PSs X body (tS Γ W A)) (hb : PSs X rest (tS Γ W B)) : PS X (.If c body rest pos) (tS Γ W (sIf T A B)) := PSimp (ps_if hc ha hb) fun Dn σ H ⟨φ, ρ, M, I, h⟩ =>
  tX.thn I h fun φ1 ρ1 M1 H1 b a I1 m1 r h1 => by
    have r' : b = a := r
    subst r'
    cases b with
    | true => rw [if_pos rfl]; exact ⟨_, _, _, I1, h1⟩
    | false => rw [if_neg Bool.false_ne_true]; exact ⟨_, _, _, I1, h1⟩
/-- a value to a name, to names -/
def sSet (pt : Pt) (F : E D) : FS := fun ρ M => (F ρ M).thn fun d ρ M => match bindP pt d ρ with
  | some ρ' => .nx ρ' M
  | none => .stuck
theorem s_asg (he : PE X e (tE Γ W F)) (hg : PG X tg (tP Γ pt)) (hs : swapsWithSole [tg] e pos.line X.env = pure false := by rfl) (hw : swappedStores [tg] e X.env = pure none := by rfl) (h1 : (assignEach [tg] X.env).map (·.2) = [assign tg X.env] := by rfl) : PS X (.Assign [tg] e pos) (tS Γ W (sSet pt F)) :=
  PSimp (ps_asg he hg hs hw (h1 := h1)) fun Dn σ H ⟨φ, ρ, M, I, h⟩ => tX.thn I h fun φ1 ρ1 M1 H1 b a I1 m1 r h1 => by
    cases eb : bindP pt a ρ1 with
    | none => rw [eb] at h1; exact h1.elim
    | some ρ' =>
      rw [eb] at h1
      exact ⟨φ1, ρ1, M1, a, ρ', I1, r, eb, fun σ' I' m' _ _ => h1 φ1 H1 σ' I' m'⟩
/-- a new list to a name: the def's own list -/
def sOwn (i : Nat) (L : E (List D)) : FS := fun ρ M => (L ρ M).thn fun ds ρ M => if i < ρ.length then .nx (ρ.set i (.own (.lst ds))) M else .stuck
theorem In.setOwn {φ : List Addr} {ρ : Rho} {M : Mem} {σ : L2.St} {H : Hp} {i : Nat} {p : Addr} {o : MO} (I : In Γ φ ρ M σ H) (n : p ∉ φ) (no : ¬ Owned ρ σ p) (mo : MoAt Γ φ H p o) : In Γ φ (ρ.set i (.own o)) M (σ.set i (some (.ref p))) H := by
  refine ⟨by rw [List.length_set, List.length_set]; exact I.len, fun j d ej => ?_, fun j c ej => ?_, fun j k b c q ej ek sj sk => ?_, I.rl, I.nd, I.mem, I.j⟩
  · by_cases hj : i = j
    · subst hj
      by_cases hi : i < ρ.length
      · rw [List.getElem?_set_self hi] at ej; cases ej
      · rw [List.getElem?_eq_none (by rw [List.length_set]; omega)] at ej; cases ej
    · rw [List.getElem?_set_ne hj] at ej ⊢
      exact I.val j d ej
  · by_cases hj : i = j
    · subst hj
      by_cases hi : i < ρ.length
      · rw [List.getElem?_set_self hi] at ej
        cases ej
        exact ⟨p, List.getElem?_set_self (by rw [I.len]; exact hi), mo, n⟩
      · rw [List.getElem?_eq_none (by rw [List.length_set]; omega)] at ej; cases ej
    · rw [List.getElem?_set_ne hj] at ej ⊢
      exact I.own j c ej
  · have lt : ∀ {j : Nat} {s : Sl}, (ρ.set i (.own o))[j]? = some s → j < ρ.length := fun {j s} e => by
      have := (List.getElem?_eq_some_iff.mp e).1
      rwa [List.length_set] at this
    have self : ∀ {k : Nat} {c : MO}, i ≠ k → (ρ.set i (.own o))[k]? = some (.own c) → (σ.set i (some (V.ref p)))[k]? = some (some (V.ref p)) → False := fun {k c} hk ek sk => by
      rw [List.getElem?_set_ne hk] at ek sk
      exact no ⟨k, c, ek, sk⟩
    by_cases hj : i = j <;> by_cases hk : i = k
    · rw [← hj, ← hk]
    · subst hj
      have hi := lt ej
      rw [List.getElem?_set_self (by rw [I.len]; exact hi)] at sj
      cases sj
      exact (self hk ek sk).elim
    · subst hk
      have hi := lt ek
      rw [List.getElem?_set_self (by rw [I.len]; exact hi)] at sk
      cases sk
      exact (self hj ej sj).elim
    · rw [List.getElem?_set_ne hj] at ej sj
      rw [List.getElem?_set_ne hk] at ek sk
      exact I.sep j k b c q ej ek sj sk
theorem Mono.setOwn {φ0 φ : List Addr} {ρ0 ρ : Rho} {σ0 σ : L2.St} {H0 H : Hp} {i : Nat} {p : Addr} {o : MO} (m : Mono φ0 ρ0 σ0 H0 φ ρ σ H) (n : Em (H0 p)) (hl : σ.length = ρ.length) : Mono φ0 ρ0 σ0 H0 φ (ρ.set i (.own o)) (σ.set i (some (.ref p))) H :=
  ⟨m.pre, m.fresh, m.pers, m.keep, m.live, fun q ⟨j, c, ej, sj⟩ => by
    by_cases hj : i = j
    · subst hj
      have hi := (List.getElem?_eq_some_iff.mp ej).1
      rw [List.length_set] at hi
      rw [List.getElem?_set_self (by rw [hl]; exact hi)] at sj
      cases sj
      exact .inr n
    · rw [List.getElem?_set_ne hj] at ej sj
      exact m.shr q ⟨j, c, ej, sj⟩⟩
theorem own_read {i : Nat} {te : TE} (i0 : ∀ σ H Q, tF Γ W L σ H Q → te σ H Q) {Dn : Ends} {σ : L2.St} {H : Hp} (q : tS Γ W (sOwn i L) Dn σ H) : tAsg te (gName i) Dn σ H := by
  obtain ⟨φ, ρ, M, I, h⟩ := q
  refine i0 _ _ _ (tX.thn0 I h fun φ1 ρ1 M1 H1 b a I1 m1 ⟨p, vs, e, n0, n1, no, hp, z, r⟩ h1 => ?_)
  subst e
  split at h1
  · exact h1 φ1 H1 _ (I1.setOwn n1 no ⟨vs, hp, z, r⟩) (m1.setOwn n0 I1.len)
  · exact h1.elim
theorem s_own {i : Nat} {x : Str} {pos' : Pos} (hN : X.N.Nodup) (hi : X.N[i]? = some x) (hx : Loc X.env.scope x) (he : PE X e (tF Γ W L)) (hs : swapsWith e (some (.Name x pos')) pos.line X.env = pure false := by rfl) (hf : X.fn x = true ∨ X.env.scope.names.lookup x = some .local := by first | exact .inl rfl | exact .inr rfl | assumption) :
    PS X (.Assign [.Name x pos'] e pos) (tS Γ W (sOwn i L)) := PSimp (ps_set hN hi hx he hs hf) fun Dn σ H q => own_read (fun _ _ _ q => q) q

/-! ### for -/
def forGo (pt : Pt) (B : FS) : List D → FS
  | [] => sNx
  | d :: ds => fun ρ M => match bindP pt d ρ with
    | none => .stuck
    | some ρ1 => match B ρ1 M with
      | .nx ρ2 M2 => forGo pt B ds ρ2 M2
      | .cnt ρ2 M2 => forGo pt B ds ρ2 M2
      | .brk ρ2 M2 => .nx ρ2 M2
      | .ret v ρ2 M2 => .ret v ρ2 M2
      | .exc n t ρ2 M2 => .exc n t ρ2 M2
      | .stuck => .stuck
def sFor (S : E (List D)) (pt : Pt) (B : FS) : FS := fun ρ M => (S ρ M).thn fun ds => forGo pt B ds
theorem s_for {S : E (List D)} (hp : PassesOwn (model X.prog X.w) X.A X.env X.xe) (hc : X.calm = true) (hi : PI X tg it (tI Γ W S)) (hg : PG X tg (tP Γ pt)) (hb : PSs X body (tS Γ W B)) (hs : ∀ x, foldedSetIterable it X.env x = pure x := by intro _; rfl) : PS X (.For tg it body [] pos) (tS Γ W (sFor S pt B)) :=
  PSimp (ps_for hp hc hi hg hb (hs := hs)) fun Dn σ H ⟨φ, ρ, M, I, h⟩ => tX.thn I h fun φ1 ρ1 M1 H1 J ds I1 m1 rw h1 => by
    obtain ⟨hz, G, Y, wk, g0, gs, yl⟩ := rw
    refine for_it (G := G) (Y := Y) wk (fun i σ' H' => ∃ φi ρi Mi, In Γ φi ρi Mi σ' H' ∧ Mono φ1 ρ1 σ H1 φi ρi σ' H' ∧ OutS Γ W φ1 ρ1 σ H1 Dn (forGo pt B (ds.drop i) ρi Mi)) ⟨φ1, ρ1, M1, I1, Mono.refl _ _ _ _, h1⟩
      (fun i σ' H' _ ⟨φi, ρi, Mi, Ii, mi, _⟩ => gs _ mi.sta) (fun i x σ' H' H2 hi' ⟨φi, ρi, Mi, Ii, mi, oi⟩ y => ?_) fun σ' H' ⟨φi, ρi, Mi, Ii, mi, oi⟩ => ?_
    · have hdi : ds[i]? = some ds[i] := List.getElem?_eq_getElem hi'
      rw [List.drop_eq_getElem_cons hi'] at oi
      obtain ⟨lay, at1⟩ := yl i H' x H2 _ hdi y (gs _ mi.sta)
      simp only [forGo] at oi
      split at oi
      · exact oi.elim
      · rename_i ρt eb
        refine ⟨φi, ρi, Mi, _, ρt, lay.inn Ii, at1 φi mi.pre mi.pers, eb, fun σ2 I2 m2 _ _ => ?_⟩
        have mt := (mi.trans lay.mono).trans m2
        refine ⟨φi, ρt, Mi, I2, ?_⟩
        cases eB : B ρt Mi with
        | nx ρ3 M3 => rw [eB] at oi; exact fun φ3 H3 σ3 I3 m3 => ⟨φ3, ρ3, M3, I3, mt.trans m3, oi⟩
        | cnt ρ3 M3 => rw [eB] at oi; exact fun φ3 H3 σ3 I3 m3 => ⟨φ3, ρ3, M3, I3, mt.trans m3, oi⟩
        | brk ρ3 M3 => rw [eB] at oi; exact fun φ3 H3 σ3 I3 m3 => oi φ3 H3 σ3 I3 (mt.trans m3)
        | ret v ρ3 M3 => rw [eB] at oi; exact fun φ3 H3 σ3 v I3 m3 => oi φ3 H3 σ3 v I3 (mt.trans m3)
        | exc n t ρ3 M3 => rw [eB] at oi; exact fun φ3 H3 σ3 x v c I3 m3 => oi φ3 H3 σ3 x v c I3 (mt.trans m3)
        | stuck => rw [eB] at oi; exact oi.elim
    · rw [List.drop_length] at oi
      exact oi φi H' σ' Ii mi

/-! ### while -/
def whileGo (T : E Bool) (B : FS) : Nat → FS
  | 0 => fun _ _ => .stuck
  | n + 1 => fun ρ M => (T ρ M).thn fun b ρ1 M1 => if b = true then (match B ρ1 M1 with
      | .nx ρ2 M2 => whileGo T B n ρ2 M2
      | .cnt ρ2 M2 => whileGo T B n ρ2 M2
      | .brk ρ2 M2 => .nx ρ2 M2
      | .ret v ρ2 M2 => .ret v ρ2 M2
      | .exc n t ρ2 M2 => .exc n t ρ2 M2
      | .stuck => .stuck) else .nx ρ1 M1
theorem s_while (fuel : Nat) (hp : PassesOwn (model X.prog X.w) X.A X.env X.xe) (hc : PT X c (tB' Γ W T)) (hb : PSs X body (tS Γ W B)) : PS X (.While c body [] pos) (tS Γ W (whileGo T B fuel)) :=
  PSimp (ps_while hp hc hb) fun Dn σ H ⟨φ, ρ, M, I, h⟩ => by
    refine ⟨fun m σ' H' => ∃ φi ρi Mi, In Γ φi ρi Mi σ' H' ∧ Mono φ ρ σ H φi ρi σ' H' ∧ OutS Γ W φ ρ σ H Dn (whileGo T B m ρi Mi), ⟨fuel, φ, ρ, M, I, Mono.refl _ _ _ _, h⟩, fun m σ' H' ⟨φi, ρi, Mi, Ii, mi, oi⟩ => ?_⟩
    cases m with
    | zero => exact oi.elim
    | succ m =>
      simp only [whileGo] at oi
      refine tX.thnB Ii mi oi fun φ1 ρ1 M1 H1 b a I1 m1 r h1 => ?_
      have r' : b = a := r
      subst r'
      have mt := mi.trans m1
      cases hbv : b with
      | false =>
        rw [if_neg Bool.false_ne_true]
        rw [hbv, if_neg Bool.false_ne_true] at h1
        exact h1 φ1 H1 σ' I1 mt
      | true =>
        rw [if_pos rfl]
        rw [hbv, if_pos rfl] at h1
        refine ⟨fun σ3 H3 => ∃ φ3 ρ3 M3, In Γ φ3 ρ3 M3 σ3 H3 ∧ Mono φ ρ σ H φ3 ρ3 σ3 H3 ∧ OutS Γ W φ ρ σ H Dn (whileGo T B m ρ3 M3), fun σ3 H3 q => ⟨m, Nat.lt_succ_self m, q⟩, φ1, ρ1, M1, I1, ?_⟩
        cases eB : B ρ1 M1 with
        | nx ρ3 M3 => rw [eB] at h1; exact fun φ3 H3 σ3 I3 m3 => ⟨φ3, ρ3, M3, I3, mt.trans m3, h1⟩
        | cnt ρ3 M3 => rw [eB] at h1; exact fun φ3 H3 σ3 I3 m3 => ⟨φ3, ρ3, M3, I3, mt.trans m3, h1⟩
        | brk ρ3 M3 => rw [eB] at h1; exact fun φ3 H3 σ3 I3 m3 => h1 φ3 H3 σ3 I3 (mt.trans m3)
        | ret v ρ3 M3 => rw [eB] at h1; exact fun φ3 H3 σ3 v I3 m3 => h1 φ3 H3 σ3 v I3 (mt.trans m3)
        | exc n t ρ3 M3 => rw [eB] at h1; exact fun φ3 H3 σ3 x v c I3 m3 => h1 φ3 H3 σ3 x v c I3 (mt.trans m3)
        | stuck => rw [eB] at h1; exact h1.elim
end
end Dn
-- DnDef
/-! Dn: what a def promises, and its call. -/
namespace Dn
open PySem PySem.Spec PyProof.Rows L2

abbrev Fn := List D → Mem → R D
def spG (Γ : Gc) (n : Nat) (G : Fn) : Sp := fun vs H Q E => ∃ φ M ds, In Γ φ [] M [] H ∧ Ats Γ φ H vs ds ∧ ds.length = n ∧ match G ds M with
  | .ok d _ M' => ∀ φ' H' v, In Γ φ' [] M' [] H' → Mono φ [] [] H φ' [] [] H' → At Γ φ' H' v d → Q v H'
  | .exc nm t _ M' => ∀ φ' H' x v c, In Γ φ' [] M' [] H' → Mono φ [] [] H φ' [] [] H' → Γ.mg nm = some (.ref c) → H' x = some (.xd [(("thing" : Str), v)]) → At Γ φ' H' v t → E (.ref c) (some x) H'
  | .stuck => False
theorem not_owned_nil {p : Addr} : ¬ Owned [] [] p := fun ⟨i, o, e, _⟩ => by simp at e
theorem In.bare {Γ : Gc} {φ : List Addr} {ρ : Rho} {M : Mem} {σ : L2.St} {H : Hp} (I : In Γ φ ρ M σ H) : In Γ φ [] M [] H :=
  ⟨rfl, fun i d e => by simp at e, fun i d e => by simp at e, fun i j a b p e => by simp at e, I.rl, I.nd, I.mem, I.j⟩
theorem Mono.bare {φ φ' : List Addr} {σ' : L2.St} {ρ' : Rho} {ρ : Rho} {σ : L2.St} {H H' : Hp} (m : Mono φ ρ σ H φ' ρ' σ' H') (no : ∀ p, ¬ Owned ρ σ p) : Mono φ [] [] H φ' [] [] H' :=
  ⟨m.pre, m.fresh, m.pers, fun p o e nt n _ => m.keep p o e nt n (no p), m.live, fun p z => (not_owned_nil z).elim⟩
/-- behind a call: the slots as they were -/
theorem In.after {Γ : Gc} {φ φ' : List Addr} {ρ : Rho} {M M' : Mem} {σ : L2.St} {H H' : Hp} (I : In Γ φ ρ M σ H) (J : In Γ φ' [] M' [] H') (m : Mono φ [] [] H φ' [] [] H') : In Γ φ' ρ M' σ H' := by
  refine ⟨I.len, fun i d e => ?_, fun i o e => ?_, I.sep, J.rl, J.nd, J.mem, J.j⟩
  · obtain ⟨v, s, a⟩ := I.val i d e
    exact ⟨v, s, a.mono m.pre m.pers⟩
  · obtain ⟨p, s, mo, n⟩ := I.own i o e
    refine ⟨p, s, mo.move m.pre m.pers fun u hu => m.keep p u hu ?_ n not_owned_nil, fun z => ?_⟩
    · rintro ps rfl
      have := mo.soft
      rw [hu] at this
      rcases this with ⟨_, q⟩ | ⟨_, q⟩ <;> cases q
    · obtain ⟨u, hu⟩ := mo.soft.is
      exact m.fresh p z n _ hu (Soft.nt (hu ▸ mo.soft))
theorem Mono.after {φ φ' : List Addr} {ρ : Rho} {σ : L2.St} {H H' : Hp} (m : Mono φ [] [] H φ' [] [] H') : Mono φ ρ σ H φ' ρ σ H' :=
  ⟨m.pre, m.fresh, m.pers, fun p o e nt n _ => m.keep p o e nt n not_owned_nil, m.live, fun p z => .inl z⟩
def startR (n : Nat) (ds : List D) : Rho := ds.map .val ++ List.replicate (n - ds.length) .un
def resG : Oc → R D
  | .nx _ M => .ok .non [] M
  | .ret d _ M => .ok d [] M
  | .exc n t _ M => .exc n t [] M
  | _ => .stuck
def bodyG (n : Nat) (B : FS) : Fn := fun ds M => resG (B (startR n ds) M)
theorem ats_ix {Γ : Gc} {φ : List Addr} {H : Hp} {N : List Str} {vs : List V} {ds : List D} (r : Ats Γ φ H vs ds) (n : Nat) (hN : N.length = n) : (∀ (i : Nat) (d : D), (startR n ds)[i]? = some (Sl.val d) → ∃ v, (L2.start N vs)[i]? = some (some v) ∧ At Γ φ H v d) ∧ (∀ (i : Nat) (o : MO), (startR n ds)[i]? ≠ some (Sl.own o)) ∧ (L2.start N vs).length = (startR n ds).length := by
  have hl := r.length
  refine ⟨fun i d e => ?_, fun i o e => ?_, ?_⟩
  · unfold startR at e
    by_cases hi : i < ds.length
    · rw [List.getElem?_append_left (by rw [List.length_map]; exact hi), List.getElem?_map] at e
      obtain ⟨d', e1, e2⟩ := Option.map_eq_some_iff.mp e
      cases e2
      obtain ⟨v, ev, a⟩ := r.get e1
      refine ⟨v, ?_, a⟩
      unfold L2.start
      rw [List.getElem?_append_left (by rw [List.length_map, hl]; exact hi), List.getElem?_map, ev]; rfl
    · rw [List.getElem?_append_right (by rw [List.length_map]; omega)] at e
      have := List.mem_of_getElem? e
      rw [List.mem_replicate] at this
      cases this.2
  · unfold startR at e
    have := List.mem_of_getElem? e
    rw [List.mem_append] at this
    rcases this with h | h
    · rw [List.mem_map] at h
      obtain ⟨_, _, z⟩ := h
      cases z
    · rw [List.mem_replicate] at h
      cases h.2
  · unfold L2.start startR
    rw [List.length_append, List.length_append, List.length_map, List.length_map, List.length_replicate, List.length_replicate, hl, hN]
section
variable {P : Program} {w : World} {K : PySem.W.Frag} {mg : Str → Option Value} {base : Heap} {J : Hp → Prop} {stab : ∀ H p o, H p = none ∨ Soft (H p) → J H → J (upd H p o)}
/-- THE RULE for a def: its body as a plain function -/
theorem fnG {x qual : Str} {st : Stmt} {f : Addr} {fd : FuncData} {N ps : List Str} {k : Nat} {B : FS} (F : Fun K x qual st f fd) (S : FnScope N ps (defScope st))
    (hbody : ∀ (cdv : Value) (A : Around) (outer : List Env) (s : Shared) (H : Hp) (E : XK), Room k (A.deeper (envOfC qual (defScope st) s.heap.objs.size f cdv)) →
      Takes (cxOf (L2.CX P w) P w K mg base N qual (defScope st) f cdv A outer s H E) (fun c d _ H => E c d H) → PassesOwn (model P w) (cxOf (L2.CX P w) P w K mg base N qual (defScope st) f cdv A outer s H E).A (cxOf (L2.CX P w) P w K mg base N qual (defScope st) f cdv A outer s H E).env (cxOf (L2.CX P w) P w K mg base N qual (defScope st) f cdv A outer s H E).xe →
      PSs (cxOf (L2.CX P w) P w K mg base N qual (defScope st) f cdv A outer s H E) (defBody st) (tS ⟨K, mg, J, stab⟩ (fun c d _ H => E c d H) B)) :
    FnOk P w K mg base (L2.CX P w) (k + 1) f fd ps (spG ⟨K, mg, J, stab⟩ ps.length (bodyG N.length B)) := by
  refine F.okX S (fun vs H Q E ⟨φ, M, ds, I, r, hn, _⟩ => by rw [r.length]; exact hn) (fun cdv A outer s H vs Q E hr ⟨φ, M, ds, I, r, hn, h⟩ => ?_)
  refine ⟨_, hbody cdv A outer s H E hr (takes_of rfl rfl rfl rfl) (passes_of rfl), φ, startR N.length ds, M, ?_, ?_⟩
  · obtain ⟨h1, h2, h3⟩ := ats_ix r N.length rfl
    exact ⟨h3, h1, fun i o e => (h2 i o e).elim, fun i j a b p e => (h2 i a e).elim, I.rl, I.nd, I.mem, I.j⟩
  · have no : ∀ p, ¬ Owned (startR N.length ds) (L2.start N vs) p := fun p ⟨i, o, e, _⟩ => (ats_ix r N.length rfl).2.1 i o e
    unfold bodyG at h
    cases eB : B (startR N.length ds) M with
    | nx ρ' M' => rw [eB] at h; exact fun φ' H' σ' I' m' => h φ' H' _ I'.bare (m'.bare no) .non
    | ret d ρ' M' => rw [eB] at h; exact fun φ' H' σ' v I' m' a => h φ' H' v I'.bare (m'.bare no) a
    | exc n t ρ' M' => rw [eB] at h; exact fun φ' H' σ' x v c I' m' hc hx a => h φ' H' x v c I'.bare (m'.bare no) hc hx a
    | brk _ _ => rw [eB] at h; exact h.elim
    | cnt _ _ => rw [eB] at h; exact h.elim
    | stuck => rw [eB] at h; exact h.elim
/-- another function, where it is told -/
def Told (G G' : Fn) : Prop := ∀ ds M, G' ds M ≠ .stuck → G ds M = G' ds M
theorem FnOk.told {CX : CXT} {k n : Nat} {f : Addr} {fd : FuncData} {ps : List Str} {Γ : Gc} {G G' : Fn} (F : FnOk P w K mg base CX k f fd ps (spG Γ n G)) (h : Told G G') : FnOk P w K mg base CX k f fd ps (spG Γ n G') :=
  F.imp fun vs H Q E ⟨φ, M, ds, I, r, hn, q⟩ => ⟨φ, M, ds, I, r, hn, by
    cases e : G' ds M with
    | stuck => rw [e] at q; exact q.elim
    | ok d ρ M' => rw [h ds M (by rw [e]; exact fun z => nomatch z), e]; rw [e] at q; exact q
    | exc n t ρ M' => rw [h ds M (by rw [e]; exact fun z => nomatch z), e]; rw [e] at q; exact q⟩
end

/-! ### calls -/
def callG (G : Fn) (ds : List D) : E D := fun ρ M => match G ds M with
  | .ok d _ M' => .ok d ρ M'
  | .exc n t _ M' => .exc n t ρ M'
  | .stuck => .stuck
def eCall (n : Nat) (G : Fn) (L : E (List D)) : E D := eBind L fun ds => if ds.length = n then callG G ds else eStuck
section
variable {X : Cx} {Γ : Gc} {W : WX} {k n : Nat} {f : Addr} {fd : FuncData} {ps : List Str} {G : Fn} {x : Str} {p pos : Pos} {e : Expr} {es : List Expr} {L : E (List D)}
theorem call_read {σ : L2.St} {φ : List Addr} {ρ : Rho} {M : Mem} {H : Hp} {vs : List V} {ds : List D} {Q : VK} (I : In Γ φ ρ M σ H) (r : Ats Γ φ H vs ds) (hn : ds.length = n) (h : Out Γ W σ (RD Γ) φ ρ H Q (callG G ds ρ M)) : spG Γ n G vs H Q (WE W σ) := by
  refine ⟨φ, M, ds, I.bare, r, hn, ?_⟩
  unfold callG at h
  cases e : G ds M with
  | ok d ρ' M' => rw [e] at h; exact fun φ' H' v I' m' a => h φ' H' v (I.after I' m') m'.after a
  | exc nm t ρ' M' => rw [e] at h; exact fun φ' H' x v c I' m' hc hx a => h φ' H' x v c (I.after I' m') m'.after hc hx a
  | stuck => rw [e] at h; exact h.elim
theorem e_call (tk : Takes X W) (F : FnOk X.prog X.w X.K X.mg X.base (L2.CX X.prog X.w) k f fd ps (spG Γ n G)) (hr : Room k X.A) (hg : Gl X x) (hm : X.mg x = some (.ref f)) (hk : PySem.W.keepIn X.K (.ref f) = true) (hb : Binds X.K fd ps [])
    (ha : PA X (e :: es) (tA Γ W L)) (hdb : (x == ("__debug__" : Str)) = false := by decide) (he : starEach (e :: es) X.env = (false, eval e X.env) :: starEach es X.env := by rfl) (hpl : (backTo pos (starEach es X.env)).any (·.1) = false := by rfl) :
    PE X (.Call (.Name x p) (e :: es) [] pos) (tE Γ W (eCall n G L)) :=
  PEimp (pe_callSD (E := WE W) F hr hg hm hk hb (.nil : Vals [] []) (fun σ => passAt tk σ) ha hdb he hpl) fun σ H Q ⟨φ, ρ, M, I, h⟩ => by
    refine tX.bind I h fun φ1 ρ1 M1 H1 vs ds I1 m1 r h1 => ?_
    show spG Γ n G (vs ++ []) H1 Q (WE W σ)
    rw [List.append_nil]
    split at h1
    · rename_i hn
      exact call_read I1 r hn h1
    · exact h1.elim
end
end Dn
-- DnIsi
/-! Dn: isinstance. -/
namespace Dn
open PySem PySem.Spec PyProof.Rows L2

def tyD : D → Option String
  | .non => some "NoneType"
  | .bl _ => some "bool"
  | .int _ => some "int"
  | .str _ => some "str"
  | .tup _ => some "tuple"
  | .lst _ => some "list"
  | .dct _ _ => some "dict"
  | _ => none
/-- is a value of the type t one of the type n -/
def isiT (n t : String) : Option Bool :=
  if t = "bool" then (if n = "bool" ∨ n = "int" then some true else if n = "str" ∨ n = "tuple" ∨ n = "list" ∨ n = "dict" then some false else none)
  else if n = "bool" ∨ n = "int" ∨ n = "str" ∨ n = "tuple" ∨ n = "list" ∨ n = "dict" then some (decide (t = n)) else none
def isiD (n : String) (d : D) : Option D := ((tyD d).bind (isiT n)).map .bl
section
variable {X : Cx} {Γ : Gc} {W : WX} {a b : Expr} {F : E D} {pos p p2 : Pos}
theorem at_ty {φ : List Addr} {H : Hp} {v : V} {d : D} {t : String} (h : At Γ φ H v d) (e : tyD d = some t) : TyX Γ.K H v (.type t) := by
  cases h with
  | non => cases e; exact .base .non
  | bl b => cases e; exact .base (.bl b)
  | int i => cases e; exact .base (.int i)
  | str x => cases e; exact .base (.str x)
  | tup s z r =>
    cases e
    rcases s with (s | ⟨o, s⟩) | ⟨o, its, n, k, c, _⟩
    · exact .base (.tup s)
    · exact .fTuple s
    · exact .kTuple k c
  | lst s z r =>
    cases e
    rcases s with ⟨o, s⟩ | ((s | ⟨o, s⟩) | ⟨o, its, n, k, c, _⟩)
    · exact .base (.frz s)
    · cases s
    · cases s
    · exact .kList k c
  | dct s z r => cases e; exact .fDict s
  | ref _ => cases e
  | fn _ => cases e
theorem kit_all {n t : String} {k : Bool} (ht : t = "NoneType" ∨ t = "bool" ∨ t = "int" ∨ t = "str" ∨ t = "tuple" ∨ t = "list" ∨ t = "dict") (h : isiT n t = some k) : kitB t n = some k := by
  have key : n = "bool" ∨ n = "int" ∨ n = "str" ∨ n = "tuple" ∨ n = "list" ∨ n = "dict" := by
    unfold isiT at h
    split at h
    · split at h
      · rename_i z; rcases z with z | z <;> simp [z]
      · split at h
        · rename_i z; rcases z with z | z | z | z <;> simp [z]
        · cases h
    · split at h
      · rename_i z; exact z
      · cases h
  rcases ht with rfl | rfl | rfl | rfl | rfl | rfl | rfl <;> rcases key with rfl | rfl | rfl | rfl | rfl | rfl <;> (revert h; cases k <;> decide +kernel)
theorem tyD_is {d : D} {t : String} (e : tyD d = some t) : t = "NoneType" ∨ t = "bool" ∨ t = "int" ∨ t = "str" ∨ t = "tuple" ∨ t = "list" ∨ t = "dict" := by
  cases d <;> simp only [tyD] at e <;> first | (cases e; done) | skip
  all_goals cases e; simp
def eIsi (n : String) (F : E D) : E D := eBind F fun d => optE (isiD n d)
theorem e_isi {y : Str} {n : String} (hg : Gl X "isinstance") (hm : X.mg "isinstance" = none) (ha : PE X a (tE Γ W F)) (hg2 : Gl X y) (hm2 : X.mg y = none) (hv2 : bootBuiltins y = some (.type n)) (hK : X.K = Γ.K := by rfl)
    (hn : y ≠ "__name__" := by decide) (hd : (y == ("__debug__" : Str)) = false := by decide)
    (he : starEach [a, .Name y p2] X.env = (false, eval a X.env) :: starEach [.Name y p2] X.env := by rfl) (he2 : starEach [.Name y p2] X.env = (false, eval (.Name y p2) X.env) :: starEach [] X.env := by rfl) (hpl : (backTo pos (starEach [.Name y p2] X.env)).any (·.1) = false := by rfl) :
    PE X (.Call (.Name "isinstance" p) [a, .Name y p2] [] pos) (tE Γ W (eIsi n F)) :=
  PEimp (pe_callB call_isi hg hm (by decide +kernel) (pa_cons ha (pa_cons (pe_bltn (v := .ty n) hg2 hm2 hv2 rfl hn hd) pa_nil he2) he) (he := he) (hpl := hpl)) fun σ H Q ⟨φ, ρ, M, I, h⟩ => tX.bind I h fun φ1 ρ1 M1 H1 v d I1 m1 a1 h1 => by
    obtain ⟨z, ez, h2⟩ := h1.opt
    unfold isiD at ez
    obtain ⟨k, e1, e2⟩ := Option.map_eq_some_iff.mp ez
    obtain ⟨t, e3, e4⟩ := Option.bind_eq_some_iff.mp e1
    subst e2
    rw [hK]
    exact ⟨v, .ty n, .type t, .type n, k, rfl, .ty n, at_ty a1 e3, kit_ty (kit_all (tyD_is e3) e4), h2.now I1 (.bl k)⟩
end
end Dn
-- DnDict
/-! Dn: dicts; things that several hands change: the memory. -/
namespace Dn
open PySem PySem.Spec PyProof.Rows L2

def dLook : List Key → List D → Key → Option D
  | k :: ks, d :: ds, q => if k = q then some d else dLook ks ds q
  | _, _, _ => none
def dHas (ks : List Key) (q : Key) : Bool := ks.any fun k => decide (k = q)
def dSet : List Key → List D → Key → D → List D
  | k :: ks, d :: ds, q, x => (if k = q then x else d) :: dSet ks ds q x
  | _, ds, _, _ => ds
def dPut (ks : List Key) (ds : List D) (q : Key) (x : D) : List Key × List D := if dHas ks q = true then (ks, dSet ks ds q x) else (ks ++ [q], ds ++ [x])
def keyOf : D → Option Key
  | .int i => some (.inl i)
  | .str x => some (.inr x)
  | _ => none
def dictOf (d : D) (M : Mem) : Option (List Key × List D) := match d with
  | .dct ks ds => some (ks, ds)
  | .ref i => match M[i]? with
    | some (.dct ks ds) => some (ks, ds)
    | _ => none
  | _ => none
section
variable {Γ : Gc} {φ : List Addr} {ρ : Rho} {M : Mem} {σ : L2.St} {H : Hp}
theorem look_at : ∀ {ks : List Key} {vs : List V} {ds : List D} {q : Key} {d : D}, Ats Γ φ H vs ds → dLook ks ds q = some d → ∃ v, valV (ks.zip vs) q = some v ∧ At Γ φ H v d
  | [], _, _, _, _, _, e => by simp [dLook] at e
  | k :: ks, _, [], _, _, r, e => by simp [dLook] at e
  | k :: ks, _, d :: ds, q, x, .cons a r, e => by
    simp only [dLook] at e
    by_cases h : k = q
    · rw [if_pos h] at e
      cases e
      exact ⟨_, valV_pos h, a⟩
    · rw [if_neg h] at e
      obtain ⟨v, h1, h2⟩ := look_at r e
      exact ⟨v, by rw [List.zip_cons_cons, valV_neg h]; exact h1, h2⟩
theorem has_at : ∀ {ks : List Key} {vs : List V} (q : Key), ks.length = vs.length → (valV (ks.zip vs) q).isSome = dHas ks q
  | [], _, q, _ => rfl
  | k :: ks, [], q, h => by simp at h
  | k :: ks, v :: vs, q, h => by
    unfold dHas
    rw [List.zip_cons_cons, List.any_cons]
    by_cases e : k = q
    · rw [valV_pos e]; simp [e]
    · rw [valV_neg e, has_at q (by simpa using h)]; simp [e, dHas]
theorem key_at {v : V} {d : D} {k : Key} (a : At Γ φ H v d) (e : keyOf d = some k) : v = kV k := by
  cases a <;> simp only [keyOf] at e <;> first | (cases e; rfl) | (cases e; done)
theorem set_at : ∀ {ks : List Key} {vs : List V} {ds : List D} {q : Key} {y : V} {x : D}, ks.length = vs.length → At Γ φ H y x → Ats Γ φ H vs ds →
    ∃ ws, (ks.zip vs).map (fun kv => if kv.1 = q then (kv.1, y) else kv) = ks.zip ws ∧ ws.length = vs.length ∧ Ats Γ φ H ws (dSet ks ds q x)
  | [], vs, ds, _, _, _, h, _, r => ⟨vs, rfl, rfl, by simpa only [dSet] using r⟩
  | k :: ks, [], _, _, _, _, h, _, _ => by simp at h
  | k :: ks, v :: vs, d :: ds, q, y, x, h, a, .cons b r => by
    obtain ⟨ws, h1, h2, h3⟩ := set_at (q := q) (by simpa using h) a r
    by_cases e : k = q
    · refine ⟨y :: ws, by rw [List.zip_cons_cons, List.map_cons, h1, List.zip_cons_cons]; simp [e], by rw [List.length_cons, List.length_cons, h2], ?_⟩
      simp only [dSet, if_pos e]
      exact .cons a h3
    · refine ⟨v :: ws, by rw [List.zip_cons_cons, List.map_cons, h1, List.zip_cons_cons]; simp [e], by rw [List.length_cons, List.length_cons, h2], ?_⟩
      simp only [dSet, if_neg e]
      exact .cons b h3
theorem any_zip : ∀ {ks : List Key} {vs : List V} (q : Key), ks.length = vs.length → ((ks.zip vs).any fun kv => decide (kv.1 = q)) = dHas ks q
  | [], _, _, _ => rfl
  | k :: ks, [], _, h => by simp at h
  | k :: ks, v :: vs, q, h => by
    rw [List.zip_cons_cons, List.any_cons, any_zip q (by simpa using h)]; rfl
theorem put_at {ks : List Key} {vs : List V} {ds : List D} {q : Key} {y : V} {x : D} (h : ks.length = vs.length) (a : At Γ φ H y x) (r : Ats Γ φ H vs ds) :
    ∃ ws, putK (ks.zip vs) q y = (dPut ks ds q x).1.zip ws ∧ (dPut ks ds q x).1.length = ws.length ∧ Ats Γ φ H ws (dPut ks ds q x).2 := by
  unfold putK dPut
  rw [any_zip q h]
  by_cases e : dHas ks q = true
  · rw [if_pos e, if_pos e]
    obtain ⟨ws, h1, h2, h3⟩ := set_at (q := q) h a r
    exact ⟨ws, h1, by rw [h2]; exact h, h3⟩
  · rw [if_neg e, if_neg e]
    exact ⟨vs ++ [y], by rw [List.zip_append h]; rfl, by simp [h], r.append (.cons a .nil)⟩
theorem dict_at {d : D} {v : V} {ks : List Key} {ds : List D} (I : In Γ φ ρ M σ H) (a : At Γ φ H v d) (e : dictOf d M = some (ks, ds)) : ∃ p vs, v = .ref p ∧ Rd H p (.dK (ks.zip vs)) ∧ ks.length = vs.length ∧ Ats Γ φ H vs ds := by
  cases a <;> simp only [dictOf] at e <;> first | (cases e; done) | skip
  · cases e
    rename_i o vs h hz r
    exact ⟨_, vs, rfl, .inr ⟨_, h⟩, hz, r⟩
  · rename_i p i hi
    split at e
    · rename_i ks' ds' em
      cases e
      obtain ⟨q, hq, vs, h, hz, r⟩ := I.mem i _ em
      rw [hi] at hq; cases hq
      exact ⟨p, vs, rfl, .inl h, hz, r⟩
    · cases e
end
section
variable {X : Cx} {Γ : Gc} {W : WX} {a b c : Expr} {F G G2 : E D} {L : E (List D)} {pos p p2 : Pos}
theorem PEor {e : Expr} {t u : TE} (h : PE X e t) (h' : PE X e u) : PE X e (fun σ H Q => t σ H Q ∨ u σ H Q) := ⟨fun pins s σ H Q I q => q.elim (h.run pins s σ H Q I) (h'.run pins s σ H Q I)⟩
/-- two rules, one of which serves -/
theorem e_either {e : Expr} {F1 F2 : E D} (h : ∀ ρ M, F ρ M = F1 ρ M ∨ F ρ M = F2 ρ M) (h1 : PE X e (tE Γ W F1)) (h2 : PE X e (tE Γ W F2)) : PE X e (tE Γ W F) := PEimp (PEor h1 h2) fun σ H Q ⟨φ, ρ, M, I, q⟩ => by
  rcases h ρ M with u | u
  · exact .inl ⟨φ, ρ, M, I, by rw [← u]; exact q⟩
  · exact .inr ⟨φ, ρ, M, I, by rw [← u]; exact q⟩
def subA (d y : D) : E D := fun ρ M => match dictOf d M, keyOf y with
  | some (ks, ds), some k => optE (dLook ks ds k) ρ M
  | _, _ => .stuck
theorem e_dget (hu : X.A.units + 1 < cLine) (ha : PE X a (tE Γ W F)) (hb : PE X b (tE Γ W G)) (hs2 : NoSl b := by intro _ _; rfl) : PE X (.Subscript a b pos) (tE Γ W (eBind F fun d => eBind G fun y => subA d y)) :=
  PEimp (pe_dget hu ha hb hs2) fun σ H Q ⟨φ, ρ, M, I, h⟩ => tX.bind I h fun φ1 ρ1 M1 H1 x d I1 m1 a1 h1 => tX.bind I1 h1 fun φ2 ρ2 M2 H2 x2 y I2 m2 a2 h2 => by
    unfold subA at h2
    split at h2
    · rename_i ks ds k ed ek
      obtain ⟨z, ez, h3⟩ := h2.opt
      obtain ⟨p, vs, rfl, rd, hl, r⟩ := dict_at I2 (a1.mono m2.pre m2.pers) ed
      obtain ⟨v, hv, av⟩ := look_at r ez
      rw [key_at a2 ek]
      exact ⟨p, v, rfl, .inl ⟨_, _, rd, rfl, hv.symm⟩, h3.now I2 av⟩
    · exact h2.elim
/-- e[i]: a place of a list, a tuple, a text, or a dict's entry -/
def subOf (d y : D) : E D := fun ρ M => if (dictOf d M).isSome = true then subA d y ρ M else optE (gIx d y) ρ M
def eSub (F G : E D) : E D := eBind F fun d => eBind G fun y => subOf d y
theorem e_at (hu : X.A.units + 1 < cLine) (ha : PE X a (tE Γ W F)) (hb : PE X b (tE Γ W G)) (hs : PlainIx b := by intro _ _; rfl) (hs2 : NoSl b := by intro _ _; rfl) (hK : X.K = Γ.K := by rfl) : PE X (.Subscript a b pos) (tE Γ W (eSub F G)) :=
  e_either (fun ρ M => by
    unfold eSub eOp eBind
    cases F ρ M with
    | stuck => exact .inl rfl
    | exc _ _ _ _ => exact .inl rfl
    | ok d ρ1 M1 =>
      show (G ρ1 M1).bind (fun y => subOf d y) = (G ρ1 M1).bind (fun y => subA d y) ∨ (G ρ1 M1).bind (fun y => subOf d y) = (G ρ1 M1).bind (fun y => optE (gIx d y))
      cases G ρ1 M1 with
      | stuck => exact .inl rfl
      | exc _ _ _ _ => exact .inl rfl
      | ok y ρ2 M2 =>
        show subOf d y ρ2 M2 = subA d y ρ2 M2 ∨ subOf d y ρ2 M2 = optE (gIx d y) ρ2 M2
        unfold subOf
        split
        · exact .inl rfl
        · exact .inr rfl) (e_dget hu ha hb hs2) (e_ix ha hb hs hK)

/-! ### d[k] = v of a dict of the memory -/
def putRef (d y x : D) : FS := fun ρ M => match d, keyOf y with
  | .ref i, some k => match M[i]? with
    | some (.dct ks ds) => if ks.length < sizeLine then .nx ρ (M.set i (.dct (dPut ks ds k x).1 (dPut ks ds k x).2)) else .stuck
    | _ => .stuck
  | _, _ => .stuck
def sPut (F G V' : E D) : FS := fun ρ M => (V' ρ M).thn fun x ρ M => (F ρ M).thn fun d ρ M => (G ρ M).thn fun y => putRef d y x
theorem In.writeM {φ : List Addr} {ρ : Rho} {M : Mem} {σ : L2.St} {H : Hp} {i : Nat} {p : Addr} {o : MO} {u : HO} (I : In Γ φ ρ M σ H) (hi : φ[i]? = some p) (mo : MoAt Γ φ (upd H p u) p o) : In Γ φ ρ (M.set i o) σ (upd H p u) := by
  have sf : Soft (H p) := I.softIn (List.mem_of_getElem? hi)
  have ps := poke_pers (o := u) sf
  refine ⟨I.len, fun j d e => ?_, fun j c e => ?_, I.sep, by rw [List.length_set]; exact I.rl, I.nd, fun j c e => ?_, Γ.stab _ _ _ (.inr sf) I.j⟩
  · obtain ⟨v, s, a⟩ := I.val j d e
    exact ⟨v, s, a.mono (Pre.refl _) ps⟩
  · obtain ⟨q, s, m, nn⟩ := I.own j c e
    have nq : q ≠ p := by rintro rfl; exact nn (List.mem_of_getElem? hi)
    exact ⟨q, s, m.move (Pre.refl _) ps fun w e => by rw [upd_ne nq]; exact e, nn⟩
  · by_cases hj : i = j
    · subst hj
      have hl := (List.getElem?_eq_some_iff.mp e).1
      rw [List.length_set] at hl
      rw [List.getElem?_set_self hl] at e
      cases e
      exact ⟨p, hi, mo⟩
    · rw [List.getElem?_set_ne hj] at e
      obtain ⟨q, s, m⟩ := I.mem j c e
      have nq : q ≠ p := by
        rintro rfl
        obtain ⟨h1, e1⟩ := List.getElem?_eq_some_iff.mp hi
        obtain ⟨h2, e2⟩ := List.getElem?_eq_some_iff.mp s
        exact hj ((List.getElem_inj I.nd).mp (e1.trans e2.symm))
      exact ⟨q, s, m.move (Pre.refl _) ps fun w e => by rw [upd_ne nq]; exact e⟩
theorem Mono.writeM {φ : List Addr} {ρ : Rho} {σ : L2.St} {H : Hp} {i : Nat} {p : Addr} {u : HO} (sf : Soft (H p)) (hi : φ[i]? = some p) (nu : NT u := by intro _ z; cases z) : Mono φ ρ σ H φ ρ σ (upd H p u) where
  pre := Pre.refl _
  fresh := fun _ a n => absurd a n
  pers := poke_pers sf
  keep := fun q o e nt n no => by rw [upd_ne (fun z => n (by rw [z]; exact List.mem_of_getElem? hi))]; exact e
  live := fun q o e nt => by
    by_cases hq : q = p
    · rw [hq, upd_same]; exact ⟨_, rfl, nu⟩
    · rw [upd_ne hq]; exact ⟨o, e, nt⟩
  shr := fun q h => .inl h
theorem s_put {pos' : Pos} {V' : E D} (hu : X.A.units + 1 < cLine) (ha : PE X a (tE Γ W F)) (hb : PE X b (tE Γ W G)) (hv : PE X c (tE Γ W V')) (hs : swapsWith c (some (.Subscript a b pos')) pos.line X.env = pure false := by rfl) :
    PS X (.Assign [.Subscript a b pos'] c pos) (tS Γ W (sPut F G V')) := PSimp (ps_dput hu ha hb hv hs) fun Dn σ H ⟨φ, ρ, M, I, h⟩ =>
  tX.thn I h fun φ1 ρ1 M1 H1 xv x I1 m1 ax h1 => tX.thn I1 h1 fun φ2 ρ2 M2 H2 dv d I2 m2 ad h2 => tX.thn I2 h2 fun φ3 ρ3 M3 H3 yv y I3 m3 ay h3 => by
    unfold putRef at h3
    split at h3
    · rename_i i k ek
      split at h3
      · rename_i ks ds em
        split at h3
        · rename_i hz
          cases ad with
          | ref hi =>
            have hi3 := m3.pre.get hi
            obtain ⟨q, hq, vs, hp, hl, r⟩ := I3.mem i _ em
            rw [hi3] at hq; cases hq
            have ax3 := (ax.mono m2.pre m2.pers).mono m3.pre m3.pers
            have sf : Soft (H3 _) := .inr ⟨_, hp⟩
            have ps := poke_pers (o := .dK (putK (ks.zip vs) k xv)) sf
            obtain ⟨ws, h4, h5, h6⟩ := put_at (q := k) hl ax3 r
            rw [key_at ay ek]
            refine ⟨_, _, rfl, DPut.k hp (by rw [List.length_zip, ← hl, Nat.min_self]; exact hz), ?_⟩
            exact h3 φ3 _ σ (I3.writeM hi3 ⟨ws, by rw [upd_same, h4], h5, h6.mono (Pre.refl _) ps⟩) (Mono.writeM sf hi3)
        · exact h3.elim
      · exact h3.elim
    · exact h3.elim

/-! ### new things for the memory -/
theorem In.pub {φ : List Addr} {ρ : Rho} {M : Mem} {σ : L2.St} {H : Hp} {p : Addr} {o : MO} (I : In Γ φ ρ M σ H) (n : p ∉ φ) (no : ¬ Owned ρ σ p) (mo : MoAt Γ φ H p o) : In Γ (φ ++ [p]) ρ (M ++ [o]) σ H := by
  have pr : Pre φ (φ ++ [p]) := ⟨[p], rfl⟩
  refine ⟨I.len, fun j d e => ?_, fun j c e => ?_, I.sep, by rw [List.length_append, List.length_append, I.rl]; rfl, ?_, fun j c e => ?_, I.j⟩
  · obtain ⟨v, s, a⟩ := I.val j d e
    exact ⟨v, s, a.mono pr (Pers.refl _)⟩
  · obtain ⟨q, s, m, nn⟩ := I.own j c e
    refine ⟨q, s, m.move pr (Pers.refl _) fun u e => e, fun z => ?_⟩
    rcases List.mem_append.mp z with z | z
    · exact nn z
    · have : q = p := by simpa using z
      exact no ⟨j, c, e, by rw [← this]; exact s⟩
  · exact List.nodup_append.mpr ⟨I.nd, by simp, fun a ha b hb => by
      have : b = p := by simpa using hb
      subst this
      rintro rfl
      exact n ha⟩
  · by_cases hj : j < M.length
    · rw [List.getElem?_append_left hj] at e
      obtain ⟨q, s, m⟩ := I.mem j c e
      exact ⟨q, pr.get s, m.move pr (Pers.refl _) fun u e => e⟩
    · rw [List.getElem?_append_right (by omega)] at e
      have hj2 : j - M.length = 0 := by
        cases q : j - M.length with
        | zero => rfl
        | succ n => rw [q] at e; simp at e
      rw [hj2] at e
      simp at e
      subst e
      refine ⟨p, ?_, mo.move pr (Pers.refl _) fun u e => e⟩
      rw [List.getElem?_append_right (by rw [I.rl]; omega), I.rl, hj2]
      rfl
theorem Mono.pub {φ0 φ : List Addr} {ρ0 ρ : Rho} {σ0 σ : L2.St} {H0 H : Hp} {p : Addr} (m : Mono φ0 ρ0 σ0 H0 φ ρ σ H) (n : Em (H0 p)) : Mono φ0 ρ0 σ0 H0 (φ ++ [p]) ρ σ H :=
  ⟨m.pre.trans ⟨[p], rfl⟩, fun q h nq => by
    rcases List.mem_append.mp h with z | z
    · exact m.fresh q z nq
    · have : q = p := by simpa using z
      subst this; exact n, m.pers, m.keep, m.live, m.shr⟩
def ePub (L : E (List D)) : E D := eBind L fun ds ρ M => .ok (.ref M.length) ρ (M ++ [.lst ds])
theorem e_pub (ha : PE X a (tF Γ W L)) : PE X a (tE Γ W (ePub L)) := PEimp ha fun σ H Q ⟨φ, ρ, M, I, h⟩ => tX.bind0 I h fun φ1 ρ1 M1 H1 v ds I1 m1 ⟨p, vs, e, n0, n1, no, hp, z, r⟩ h1 => by
  subst e
  refine h1 _ H1 _ (I1.pub n1 no ⟨vs, hp, z, r⟩) (m1.pub n0) (.ref ?_)
  rw [← I1.rl, List.getElem?_append_right (Nat.le_refl _)]
  simp
/-- the pairs of a display -/
def ePairs : List (E D × E D) → E (List Key × List D)
  | [] => eOk ([], [])
  | (K', V') :: r => eBind K' fun k => eBind V' fun v => eBind (ePairs r) fun ps => match keyOf k with
    | some q => eOk (q :: ps.1, v :: ps.2)
    | none => eStuck
def RPs (Γ : Gc) : Rel (List (V × V)) (List Key × List D) := fun _ φ' _ _ H' ps kd => ∃ vs, ps = (kd.1.map kV).zip vs ∧ kd.1.length = vs.length ∧ Ats Γ φ' H' vs kd.2
instance : RelOk (RPs Γ) := ⟨fun _ h => h⟩
theorem pairs_read : ∀ (l : List (E D × E D)) {σ : L2.St} {H : Hp} {Q : List (V × V) → Hp → Prop}, tX Γ W (RPs Γ) (ePairs l) σ H Q → tPairs (l.map fun p => (tE Γ W p.1, tE Γ W p.2)) σ H Q
  | [], σ, H, Q, ⟨φ, ρ, M, I, h⟩ => h.now I ⟨[], rfl, rfl, .nil⟩
  | (K', V') :: r, σ, H, Q, ⟨φ, ρ, M, I, h⟩ => tX.bind I h fun φ1 ρ1 M1 H1 x k I1 m1 a1 h1 => tX.bind I1 h1 fun φ2 ρ2 M2 H2 y v I2 m2 a2 h2 => pairs_read r (tX.bind I2 h2 fun φ3 ρ3 M3 H3 ps kd I3 m3 ⟨vs, e, hl, a3⟩ h3 => by
    cases ek : keyOf k with
    | none => rw [ek] at h3; exact h3.elim
    | some q =>
      rw [ek] at h3
      subst e
      exact h3.now I3 ⟨y :: vs, by rw [key_at a1 ek]; rfl, by simp [hl], .cons (a2.mono m3.pre m3.pers) a3⟩)
def mergeD (ks : List Key) (ds : List D) : List Key → List D → List Key × List D
  | q :: qs, x :: xs => let m := dPut ks ds q x
    mergeD m.1 m.2 qs xs
  | _, _ => (ks, ds)
theorem merge_at {φ : List Addr} {H : Hp} : ∀ {qs : List Key} {ys : List V} {xs : List D} {ks : List Key} {vs : List V} {ds : List D}, qs.length = ys.length → Ats Γ φ H ys xs → ks.length = vs.length → Ats Γ φ H vs ds →
    ∃ ws, mergeK (ks.zip vs) (qs.zip ys) = (mergeD ks ds qs xs).1.zip ws ∧ (mergeD ks ds qs xs).1.length = ws.length ∧ Ats Γ φ H ws (mergeD ks ds qs xs).2
  | [], ys, xs, ks, vs, ds, _, _, h, r => ⟨vs, rfl, by simpa only [mergeD] using h, by simpa only [mergeD] using r⟩
  | q :: qs, [], _, _, _, _, h, _, _, _ => by simp at h
  | q :: qs, y :: ys, x :: xs, ks, vs, ds, h, .cons a b, hl, r => by
    obtain ⟨ws, h1, h2, h3⟩ := put_at (q := q) hl a r
    obtain ⟨us, h4, h5, h6⟩ := merge_at (qs := qs) (by simpa using h) b h2 h3
    refine ⟨us, ?_, by simpa only [mergeD] using h5, by simpa only [mergeD] using h6⟩
    have e : mergeK (ks.zip vs) ((q :: qs).zip (y :: ys)) = mergeK (putK (ks.zip vs) q y) (qs.zip ys) := rfl
    rw [e, h1]
    simpa only [mergeD] using h4
theorem zip_kv : ∀ {ks : List Key} {vs : List V}, (ks.map kV).zip vs = (ks.zip vs).map fun kv => (kV kv.1, kv.2)
  | [], _ => rfl
  | k :: ks, [] => rfl
  | k :: ks, v :: vs => by rw [List.map_cons, List.zip_cons_cons, List.zip_cons_cons, List.map_cons, zip_kv]
/-- a new dict -/
def RFd (Γ : Gc) : Rel V (List Key × List D) := fun H φ' ρ' σ' H' v kd => ∃ p vs, v = .ref p ∧ Em (H p) ∧ p ∉ φ' ∧ ¬ Owned ρ' σ' p ∧ H' p = some (.dK (kd.1.zip vs)) ∧ kd.1.length = vs.length ∧ Ats Γ φ' H' vs kd.2
instance : RelOk (RFd Γ) := ⟨fun f ⟨p, vs, e, n, r⟩ => ⟨p, vs, e, f p n, r⟩⟩
abbrev tFd (Γ : Gc) (W : WX) (F : E (List Key × List D)) : TE := tX Γ W (RFd Γ) F
def eDisp (l : List (E D × E D)) : E (List Key × List D) := eBind (ePairs l) fun kd => if kd.1.length ≤ 15 then eOk (mergeD [] [] kd.1 kd.2) else eStuck
theorem pp_nil : PPs X pos [] [] (([] : List (E D × E D)).map fun p => (tE Γ W p.1, tE Γ W p.2)) := pps_nil
theorem pp_cons {k v : Expr} {ks : List (Option Expr)} {vs : List Expr} {l : List (E D × E D)} (hk : PE X k (tE Γ W F)) (hv : PE X v (tE Γ W G)) (hr : PPs X pos ks vs (l.map fun p => (tE Γ W p.1, tE Γ W p.2))) :
    PPs X pos (some k :: ks) (v :: vs) (((F, G) :: l).map fun p => (tE Γ W p.1, tE Γ W p.2)) := pps_cons hk hv hr
theorem fd_disp {keys : List (Option Expr)} {values : List Expr} {l : List (E D × E D)} (h : PPs X pos keys values (l.map fun p => (tE Γ W p.1, tE Γ W p.2))) (hall : keys.all (·.isSome) = true := by rfl) (hl : keys.length = values.length := by rfl) (h0 : keys ≠ [] := by intro z; cases z)
    (hpe : PE X (.Dict keys values pos) (tDisp (l.map fun p => (tE Γ W p.1, tE Γ W p.2)))) : PE X (.Dict keys values pos) (tFd Γ W (eDisp l)) :=
  PEimp hpe fun σ H Q ⟨φ, ρ, M, I, h⟩ p hp => by
    have I0 := I.new (o := .dK []) hp
    have m0 : Mono φ ρ σ H φ ρ σ (upd H p (.dK [])) := Mono.new hp
    refine pairs_read l ?_
    have nP := I.notIn hp
    have nO := I.notOwned hp
    have h' : Out Γ W σ (RFd Γ) φ ρ H Q (eDisp l ρ M) := h
    unfold eDisp at h'
    refine ⟨φ, ρ, M, I0, ?_⟩
    unfold eBind at h'
    cases e : ePairs l ρ M with
    | stuck => rw [e] at h'; exact h'
    | exc n t ρ' M' => rw [e] at h'; exact h'.from m0
    | ok kd ρ' M' =>
      rw [e] at h'
      intro φ' H' ps I' m' ⟨vs, ep, hl, r⟩
      have hp' : H' p = some (.dK []) := m'.keep p _ upd_same (fun _ z => nomatch z) nP nO
      have nP' : p ∉ φ' := fun z => by
        exact m'.fresh p z nP _ upd_same nt_dk
      have nO' : ¬ Owned ρ' σ p := fun z => by
        rcases m'.shr p z with q | q
        · exact nO q
        · exact q _ upd_same nt_dk
      refine ⟨hp', kd.1.zip vs, by rw [ep, zip_kv], ?_⟩
      dsimp only [R.bind] at h'
      split at h'
      · rename_i hz
        refine ⟨by rw [List.length_zip, ← hl, Nat.min_self]; exact hz, ?_⟩
        have sf : Soft (H' p) := .inr ⟨_, hp'⟩
        obtain ⟨ws, h1, h2, h3⟩ := merge_at (ks := []) (vs := []) (ds := []) hl r rfl .nil
        have h1' : mergeK [] (kd.1.zip vs) = (mergeD [] [] kd.1 kd.2).1.zip ws := h1
        rw [h1']
        exact h' φ' _ _ (I'.poke sf nP' nO') ((m0.trans m').late (.none hp) nt_dk ⟨_, hp'⟩) ⟨p, ws, rfl, .none hp, nP', nO', upd_same, h2, h3.mono (Pre.refl _) (poke_pers sf)⟩
      · exact h'.elim
def eDpub (L : E (List Key × List D)) : E D := eBind L fun kd ρ M => .ok (.ref M.length) ρ (M ++ [.dct kd.1 kd.2])
theorem e_dpub {L' : E (List Key × List D)} (ha : PE X a (tFd Γ W L')) : PE X a (tE Γ W (eDpub L')) := PEimp ha fun σ H Q ⟨φ, ρ, M, I, h⟩ => tX.bind0 I h fun φ1 ρ1 M1 H1 v kd I1 m1 ⟨p, vs, e, n0, n1, no, hp, z, r⟩ h1 => by
  subst e
  refine h1 _ H1 _ (I1.pub n1 no ⟨vs, hp, z, r⟩) (m1.pub n0) (.ref ?_)
  rw [← I1.rl, List.getElem?_append_right (Nat.le_refl _)]
  simp
/-- a new dict that stays -/
theorem e_dfrz {L' : E (List Key × List D)} (ha : PE X a (tFd Γ W L')) : PE X a (tE Γ W (eMap (fun kd => .dct kd.1 kd.2) L')) := by
  refine ⟨fun pins s σ H Q I h => ?_⟩
  obtain ⟨φ, ρ, M, J, h⟩ := h
  have h2 : tFd Γ W L' σ H (fun v H1 => ∃ p kvs, v = .ref p ∧ H1 p = some (.dK kvs) ∧ ∀ o, Q v (upd H1 p (.frz o (.dK kvs)))) :=
    tX.bind0 J h fun φ1 ρ1 M1 H1 v kd J1 m1 r1 h1 => by
      obtain ⟨p, vs, rfl, n0, n1, no, hp, hz, at1⟩ := r1
      refine ⟨p, _, rfl, hp, fun o => ?_⟩
      have sf : Soft (H1 p) := .inr ⟨_, hp⟩
      exact h1 φ1 _ _ (J1.poke sf n1 no) (m1.late n0 nt_frz ⟨_, hp⟩) (.dct upd_same hz (at1.mono (Pre.refl _) (poke_pers sf)))
  refine wpAny_mono (ha.run pins s σ H _ I h2) (fun u s' ⟨v, H1, I1, rv, p, kvs, ev, hp, q⟩ => ?_) fun _ _ x => x
  obtain ⟨od, I2⟩ := I1.lock hp True.intro
  exact ⟨v, _, I2, rv, q od⟩
end
end Dn
-- DnMeth
/-! Dn: methods that change a list: of the def's own, of the memory. -/
namespace Dn
open PySem PySem.Spec PyProof.Rows L2

abbrev Op1 := List D → List D → Option (D × List D)
/-- a method by values tells a plain operation -/
def MtD (Γ : Gc) (r : V → List V → Hp → VK → Prop) (op : Op1) : Prop :=
  ∀ (φ : List Addr) (H : Hp) (p : Addr) (vs : List V) (ds : List D) (as : List V) (xs : List D) (z : D) (ds' : List D) (Q : VK), H p = some (.lst vs) → vs.length ≤ sizeLine → Ats Γ φ H vs ds → Ats Γ φ H as xs → op ds xs = some (z, ds') →
    (∀ v vs', vs'.length ≤ sizeLine → Ats Γ φ H vs' ds' → At Γ φ H v z → Q v (upd H p (.lst vs'))) → r (.ref p) as H Q
def oAppend : Op1 := fun ds xs => match xs with
  | [x] => if ds.length < sizeLine then some (.non, ds ++ [x]) else none
  | _ => none
def oPop : Op1 := fun ds xs => match xs with
  | [] => (ds[ds.length - 1]?).map fun x => (x, ds.dropLast)
  | _ => none
def oPopAt : Op1 := fun ds xs => match xs with
  | [.int i] => if -(2 ^ 63) ≤ i ∧ i < 2 ^ 63 then (seqIndex? i ds.length).bind fun k => (ds[k]?).map fun x => (x, ds.eraseIdx k) else none
  | _ => none
section
variable {X : Cx} {Γ : Gc} {W : WX} {a b c e : Expr} {es : List Expr} {F G G2 : E D} {L : E (List D)} {pos p p2 apos cpos : Pos}
theorem Ats.eraseIdx {φ : List Addr} {H : Hp} : ∀ {vs : List V} {ds : List D} (k : Nat), Ats Γ φ H vs ds → Ats Γ φ H (vs.eraseIdx k) (ds.eraseIdx k)
  | _, _, _, .nil => .nil
  | _, _, 0, .cons _ r => r
  | _, _, k + 1, .cons a r => .cons a (Ats.eraseIdx k r)
theorem Ats.dropLast {φ : List Addr} {H : Hp} : ∀ {vs : List V} {ds : List D}, Ats Γ φ H vs ds → Ats Γ φ H vs.dropLast ds.dropLast
  | _, _, .nil => .nil
  | _, _, .cons a .nil => .nil
  | _, _, .cons a (.cons b r) => .cons a (Ats.dropLast (.cons b r))
theorem md_append : MtD Γ rAppend oAppend := fun φ H p vs ds as xs z ds' Q hp hz r ra e k => by
  unfold oAppend at e
  split at e
  · split at e
    · rename_i hl
      cases e
      cases ra with
      | cons h t =>
        cases t
        rw [← r.length] at hl
        exact ⟨p, vs, _, rfl, rfl, hp, hl, k _ _ (by rw [List.length_append, List.length_singleton]; exact hl) (r.append (.cons h .nil)) .non⟩
    · cases e
  · cases e
theorem md_pop : MtD Γ rPop oPop := fun φ H p vs ds as xs z ds' Q hp hz r ra e k => by
  unfold oPop at e
  split at e
  · obtain ⟨x, e1, e2⟩ := Option.map_eq_some_iff.mp e
    cases e2
    cases ra
    obtain ⟨v, h1, h2⟩ := r.get e1
    rw [← r.length] at h1
    exact ⟨p, vs, v, rfl, rfl, hp, h1, k _ _ (by rw [List.length_dropLast]; omega) r.dropLast h2⟩
  · cases e
theorem md_popAt : MtD Γ rPopAt oPopAt := fun φ H p vs ds as xs z ds' Q hp hz r ra e k => by
  unfold oPopAt at e
  split at e
  · split at e
    · rename_i hi
      obtain ⟨j, e0, e'⟩ := Option.bind_eq_some_iff.mp e
      obtain ⟨x, e1, e2⟩ := Option.map_eq_some_iff.mp e'
      cases e2
      cases ra with
      | cons h t =>
        cases t
        cases h
        obtain ⟨v, h1, h2⟩ := r.get e1
        rw [← r.length] at e0
        exact ⟨p, vs, _, j, v, rfl, rfl, hp, hi.1, hi.2, e0, h1, k _ _ (by have := List.length_eraseIdx_le vs j; omega) (r.eraseIdx j) h2⟩
    · cases e
  · cases e
/-- the def's own list at slot i -/
def ownL (ρ : Rho) (i : Nat) : Option (List D) := match ρ[i]? with
  | some (.own (.lst ds)) => some ds
  | _ => none
theorem ownL_some {ρ : Rho} {i : Nat} {ds : List D} (h : ownL ρ i = some ds) : ρ[i]? = some (.own (.lst ds)) := by
  unfold ownL at h
  split at h
  · rename_i e; cases h; exact e
  · cases h
def eOwnM (i : Nat) (op : Op1) (L : E (List D)) : E D := fun ρ M => if (ownL ρ i).isSome = true then (L ρ M).bind fun xs ρ M => match ownL ρ i with
    | some ds => match op ds xs with
      | some (z, ds') => .ok z (ρ.set i (.own (.lst ds'))) M
      | none => .stuck
    | none => .stuck
  else .stuck
/-- the content of an own list turns -/
theorem In.turn {φ : List Addr} {ρ : Rho} {M : Mem} {σ : L2.St} {H : Hp} {i : Nat} {p : Addr} {o o' : MO} {u : HO} (I : In Γ φ ρ M σ H) (e : ρ[i]? = some (.own o)) (s : σ[i]? = some (some (.ref p))) (mo : MoAt Γ φ (upd H p u) p o') : In Γ φ (ρ.set i (.own o')) M σ (upd H p u) := by
  obtain ⟨p', s', m', n⟩ := I.own i o e
  rw [s] at s'; cases s'
  have sf := m'.soft
  have ps := poke_pers (o := u) sf
  have hi : i < ρ.length := (List.getElem?_eq_some_iff.mp e).1
  refine ⟨by rw [List.length_set]; exact I.len, fun j d ej => ?_, fun j c ej => ?_, fun j k a b q ej ek => ?_, I.rl, I.nd, fun j c ej => ?_, Γ.stab _ _ _ (.inr sf) I.j⟩
  · have hj : i ≠ j := by rintro rfl; rw [List.getElem?_set_self hi] at ej; cases ej
    rw [List.getElem?_set_ne hj] at ej
    obtain ⟨v, s', a⟩ := I.val j d ej
    exact ⟨v, s', a.mono (Pre.refl _) ps⟩
  · by_cases hj : i = j
    · subst hj
      rw [List.getElem?_set_self hi] at ej
      cases ej
      exact ⟨p, s, mo, n⟩
    · rw [List.getElem?_set_ne hj] at ej
      obtain ⟨q, s', m, nn⟩ := I.own j c ej
      have nq : q ≠ p := by rintro rfl; exact hj (I.sep i j _ _ _ e ej s s')
      exact ⟨q, s', m.move (Pre.refl _) ps fun w e => by rw [upd_ne nq]; exact e, nn⟩
  · have back : ∀ {j : Nat} {a : MO}, (ρ.set i (.own o'))[j]? = some (.own a) → ∃ a', ρ[j]? = some (.own a') := fun {j a} ej => by
      by_cases hj : i = j
      · subst hj; exact ⟨_, e⟩
      · rw [List.getElem?_set_ne hj] at ej; exact ⟨_, ej⟩
    obtain ⟨a', e1⟩ := back ej
    obtain ⟨b', e2⟩ := back ek
    exact I.sep j k a' b' q e1 e2
  · obtain ⟨q, s', m⟩ := I.mem j c ej
    have nq : q ≠ p := by rintro rfl; exact n (List.mem_of_getElem? s')
    exact ⟨q, s', m.move (Pre.refl _) ps fun w e => by rw [upd_ne nq]; exact e⟩
theorem Mono.turn {φ : List Addr} {ρ : Rho} {σ : L2.St} {H : Hp} {i : Nat} {p : Addr} {o o' : MO} {u : HO} (sf : Soft (H p)) (e : ρ[i]? = some (.own o)) (s : σ[i]? = some (some (.ref p))) (nu : NT u := by intro _ z; cases z) : Mono φ ρ σ H φ (ρ.set i (.own o')) σ (upd H p u) where
  pre := Pre.refl _
  fresh := fun _ a n => absurd a n
  pers := poke_pers sf
  keep := fun q w eq nt n no => by rw [upd_ne (fun z => no ⟨i, _, e, by rw [z]; exact s⟩)]; exact eq
  live := fun q w eq nt => by
    by_cases hq : q = p
    · rw [hq, upd_same]; exact ⟨_, rfl, nu⟩
    · rw [upd_ne hq]; exact ⟨w, eq, nt⟩
  shr := fun q ⟨j, c, ej, sj⟩ => by
    by_cases hj : i = j
    · subst hj; exact .inl ⟨i, _, e, sj⟩
    · rw [List.getElem?_set_ne hj] at ej; exact .inl ⟨j, c, ej, sj⟩
theorem own_meth {i : Nat} {r : V → List V → Hp → VK → Prop} {op : Op1} (md : MtD Γ r op) {σ : L2.St} {H : Hp} {Q : VK} (hK : X.K = Γ.K) (h : tE Γ W (eOwnM i op L) σ H Q) : tBM X.K "list" r (tVar i) (tA Γ W L) σ H Q := by
  obtain ⟨φ, ρ, M, I, h⟩ := h
  unfold eOwnM at h
  split at h
  · rename_i hs
    obtain ⟨ds0, e0⟩ := Option.isSome_iff_exists.mp hs
    obtain ⟨p, sp, ⟨vs0, hp0, _, _⟩, _⟩ := I.own i _ (ownL_some e0)
    refine ⟨_, sp, .inl ⟨rfl, vs0, by rw [hK]; exact SqL.of hp0⟩, ?_⟩
    refine tX.bind I h fun φ1 ρ1 M1 H1 as xs I1 m1 ra h1 => ?_
    split at h1
    · rename_i ds e1
      split at h1
      · rename_i z ds' eo
        obtain ⟨p', sp', ⟨vs, hp, hz, rd⟩, np⟩ := I1.own i _ (ownL_some e1)
        rw [sp] at sp'; cases sp'
        have sf : Soft (H1 p) := .inl ⟨_, hp⟩
        refine md φ1 H1 p vs ds as xs z ds' Q hp hz rd ra eo fun v vs' hz' rv av => ?_
        have ps := poke_pers (o := .lst vs') sf
        exact h1 φ1 _ v (I1.turn (ownL_some e1) sp ⟨vs', upd_same, hz', rv.mono (Pre.refl _) ps⟩) (Mono.turn sf (ownL_some e1) sp) (av.mono (Pre.refl _) ps)
      · exact h1.elim
    · exact h1.elim
  · exact h.elim
theorem own_meth0 {i : Nat} {r : V → List V → Hp → VK → Prop} {op : Op1} (md : MtD Γ r op) {σ : L2.St} {H : Hp} {Q : VK} (hK : X.K = Γ.K) (h : tE Γ W (eOwnM i op eNil) σ H Q) : tBM0 X.K "list" r (tVar i) σ H Q := by
  obtain ⟨v, s, t, h2⟩ := own_meth (X := X) md hK h
  obtain ⟨φ, ρ, M, I, h3⟩ := h2
  exact ⟨v, s, t, h3 φ H [] I (Mono.refl _ _ _ _) .nil⟩
theorem e_ownM {i : Nat} {x : Str} {px : Pos} {nm : Str} {id : String} {r : V → List V → Hp → VK → Prop} {op : Op1} (md : MtD Γ r op) (slot : Slot "list" nm id) (hty : typeOf (.builtin id) = pure (.type "method_descriptor")) (hm : MtR X id r)
    (hv : PE X (.Name x px) (tVar i)) (ha : PA X (e :: es) (tA Γ W L)) (hK : X.K = Γ.K := by rfl) (hbase : attributeBase (.Name x px) nm X.env (eval (.Name x px) X.env) = eval (.Name x px) X.env := by rfl)
    (hfew : ((backTo cpos (starEach (e :: es) X.env)).all (fun x => !x.1) && (backToKw cpos (keywordEach [] X.env)).all (fun x => x.1.isSome)
      && decide ((e :: es).length + ([] : List Keyword).length + (if ([] : List Keyword).isEmpty then 0 else 1) < 30)) = true := by rfl)
    (hline : (apos.endLine == cpos.line) = true := by rfl) (hs : starEach (e :: es) X.env = (false, eval e X.env) :: starEach es X.env := by rfl) (hplain : (backTo cpos (starEach es X.env)).any (·.1) = false := by rfl) :
    PE X (.Call (.Attribute (.Name x px) nm apos) (e :: es) [] cpos) (tE Γ W (eOwnM i op L)) :=
  PEimp (pe_bm PySem.F.plainAttrs_list slot hty hm hv ha hbase hfew hline hs hplain) fun σ H Q h => own_meth md hK h
theorem e_ownM0 {i : Nat} {x : Str} {px : Pos} {nm : Str} {id : String} {r : V → List V → Hp → VK → Prop} {op : Op1} (md : MtD Γ r op) (slot : Slot "list" nm id) (hty : typeOf (.builtin id) = pure (.type "method_descriptor")) (hm : MtR X id r)
    (hv : PE X (.Name x px) (tVar i)) (hK : X.K = Γ.K := by rfl) (hbase : attributeBase (.Name x px) nm X.env (eval (.Name x px) X.env) = eval (.Name x px) X.env := by rfl) (hline : (apos.endLine == cpos.line) = true := by rfl) :
    PE X (.Call (.Attribute (.Name x px) nm apos) [] [] cpos) (tE Γ W (eOwnM i op eNil)) :=
  PEimp (pe_bm0 PySem.F.plainAttrs_list slot hty hm hv hbase hline) fun σ H Q h => own_meth0 md hK h
/-- a list of the memory -/
def eRefM (F : E D) (op : Op1) (L : E (List D)) : E D := eBind F fun d => fun ρ M => match d with
  | .ref i => if (match M[i]? with
      | some (.lst _) => true
      | _ => false) = true then (L ρ M).bind fun xs ρ M => match M[i]? with
    | some (.lst ds) => match op ds xs with
      | some (z, ds') => .ok z ρ (M.set i (.lst ds'))
      | none => .stuck
    | _ => .stuck else .stuck
  | _ => .stuck
theorem ref_meth {r : V → List V → Hp → VK → Prop} {op : Op1} (md : MtD Γ r op) {σ : L2.St} {H : Hp} {Q : VK} (hK : X.K = Γ.K) (h : tE Γ W (eRefM F op L) σ H Q) : tBM X.K "list" r (tE Γ W F) (tA Γ W L) σ H Q := by
  obtain ⟨φ, ρ, M, I, h⟩ := h
  refine tX.bind I h fun φ1 ρ1 M1 H1 v d I1 m1 a1 h1 => ?_
  cases a1 with
  | @ref p i hi =>
    dsimp only at h1
    split at h1
    · rename_i hs
      have ex : ∃ ds, M1[i]? = some (.lst ds) := by
        revert hs
        cases q : M1[i]? with
        | none => intro z; cases z
        | some o => cases o with
          | lst ds => intro _; exact ⟨ds, rfl⟩
          | dct _ _ => intro z; cases z
      obtain ⟨ds0, e0⟩ := ex
      obtain ⟨q, hq, vs0, hp0, _, _⟩ := I1.mem i _ e0
      rw [hi] at hq; cases hq
      refine ⟨.inl ⟨rfl, vs0, by rw [hK]; exact SqL.of hp0⟩, ?_⟩
      refine tX.bind I1 h1 fun φ2 ρ2 M2 H2 as xs I2 m2 ra h2 => ?_
      split at h2
      · rename_i ds e1
        split at h2
        · rename_i z ds' eo
          have hi2 := m2.pre.get hi
          obtain ⟨q, hq, vs, hp, hz, rd⟩ := I2.mem i _ e1
          rw [hi2] at hq; cases hq
          have sf : Soft (H2 p) := .inl ⟨_, hp⟩
          refine md φ2 H2 p vs ds as xs z ds' Q hp hz rd ra eo fun v vs' hz' rv av => ?_
          have ps := poke_pers (o := .lst vs') sf
          exact h2 φ2 _ v (I2.writeM hi2 ⟨vs', upd_same, hz', rv.mono (Pre.refl _) ps⟩) (Mono.writeM sf hi2) (av.mono (Pre.refl _) ps)
        · exact h2.elim
      · exact h2.elim
    · exact h1.elim
  | _ => exact h1.elim
theorem e_refM {nm : Str} {id : String} {r : V → List V → Hp → VK → Prop} {op : Op1} (md : MtD Γ r op) (slot : Slot "list" nm id) (hty : typeOf (.builtin id) = pure (.type "method_descriptor")) (hm : MtR X id r)
    (hv : PE X a (tE Γ W F)) (ha : PA X (e :: es) (tA Γ W L)) (hK : X.K = Γ.K := by rfl) (hbase : attributeBase a nm X.env (eval a X.env) = eval a X.env := by rfl)
    (hfew : ((backTo cpos (starEach (e :: es) X.env)).all (fun x => !x.1) && (backToKw cpos (keywordEach [] X.env)).all (fun x => x.1.isSome)
      && decide ((e :: es).length + ([] : List Keyword).length + (if ([] : List Keyword).isEmpty then 0 else 1) < 30)) = true := by rfl)
    (hline : (apos.endLine == cpos.line) = true := by rfl) (hs : starEach (e :: es) X.env = (false, eval e X.env) :: starEach es X.env := by rfl) (hplain : (backTo cpos (starEach es X.env)).any (·.1) = false := by rfl) :
    PE X (.Call (.Attribute a nm apos) (e :: es) [] cpos) (tE Γ W (eRefM F op L)) :=
  PEimp (pe_bm PySem.F.plainAttrs_list slot hty hm hv ha hbase hfew hline hs hplain) fun σ H Q h => ref_meth md hK h
theorem e_refM0 {nm : Str} {id : String} {r : V → List V → Hp → VK → Prop} {op : Op1} (md : MtD Γ r op) (slot : Slot "list" nm id) (hty : typeOf (.builtin id) = pure (.type "method_descriptor")) (hm : MtR X id r)
    (hv : PE X a (tE Γ W F)) (hK : X.K = Γ.K := by rfl) (hbase : attributeBase a nm X.env (eval a X.env) = eval a X.env := by rfl) (hline : (apos.endLine == cpos.line) = true := by rfl) :
    PE X (.Call (.Attribute a nm apos) [] [] cpos) (tE Γ W (eRefM F op eNil)) :=
  PEimp (pe_bm0 PySem.F.plainAttrs_list slot hty hm hv hbase hline) fun σ H Q h => by
    have h1 := ref_meth (X := X) md hK h
    obtain ⟨φ, ρ, M, I, h2⟩ := h1
    refine ⟨φ, ρ, M, I, ?_⟩
    cases u : F ρ M with
    | ok d ρ' M' =>
      rw [u] at h2
      intro φ' H' b I' m' r'
      obtain ⟨t, ⟨φ2, ρ2, M2, I2, h3⟩⟩ := h2 φ' H' b I' m' r'
      exact ⟨t, h3 φ2 H' [] I2 (Mono.refl _ _ _ _) .nil⟩
    | exc n t ρ' M' => rw [u] at h2; exact h2
    | stuck => rw [u] at h2; exact h2
/-- xs.extend(a new list) -/
def eOwnX (i : Nat) (L : E (List D)) : E D := fun ρ M => if (ownL ρ i).isSome = true then (L ρ M).bind fun xs ρ M => match ownL ρ i with
    | some ds => if ds.length + xs.length ≤ sizeLine then .ok .non (ρ.set i (.own (.lst (ds ++ xs)))) M else .stuck
    | none => .stuck
  else .stuck
theorem e_ownX {i : Nat} {x : Str} {px : Pos} (hv : PE X (.Name x px) (tVar i)) (ha : PE X e (tF Γ W L)) (hK : X.K = Γ.K := by rfl) (hbase : attributeBase (.Name x px) "extend" X.env (eval (.Name x px) X.env) = eval (.Name x px) X.env := by rfl)
    (hfew : ((backTo cpos (starEach [e] X.env)).all (fun x => !x.1) && (backToKw cpos (keywordEach [] X.env)).all (fun x => x.1.isSome)
      && decide (([e] : List Expr).length + ([] : List Keyword).length + (if ([] : List Keyword).isEmpty then 0 else 1) < 30)) = true := by rfl)
    (hline : (apos.endLine == cpos.line) = true := by rfl) (hs : starEach [e] X.env = (false, eval e X.env) :: starEach [] X.env := by rfl) (hplain : (backTo cpos (starEach [] X.env)).any (·.1) = false := by rfl) :
    PE X (.Call (.Attribute (.Name x px) "extend" apos) [e] [] cpos) (tE Γ W (eOwnX i L)) :=
  PEimp (pe_bm PySem.F.plainAttrs_list PySem.F.slot_list_extend PySem.F.type_list_extend mt_extend hv (pa_cons ha pa_nil hs) hbase hfew hline hs hplain) fun σ H Q ⟨φ, ρ, M, I, h⟩ => by
    unfold eOwnX at h
    split at h
    · rename_i hs
      obtain ⟨ds0, e0⟩ := Option.isSome_iff_exists.mp hs
      obtain ⟨p, sp, ⟨vs0, hp0, _, _⟩, _⟩ := I.own i _ (ownL_some e0)
      refine ⟨_, sp, .inl ⟨rfl, vs0, by rw [hK]; exact SqL.of hp0⟩, ?_⟩
      refine tX.bind I h fun φ1 ρ1 M1 H1 v xs I1 m1 ⟨q, ws, ev, q0, q1, qo, hq, qz, rq⟩ h1 => ?_
      subst ev
      split at h1
      · rename_i ds e1
        split at h1
        · rename_i hz
          obtain ⟨p', sp', ⟨vs, hp, hz', rd⟩, np⟩ := I1.own i _ (ownL_some e1)
          rw [sp] at sp'; cases sp'
          have sf : Soft (H1 p) := .inl ⟨_, hp⟩
          have hz2 : vs.length + ws.length ≤ sizeLine := by rw [rd.length, rq.length]; exact hz
          have ps := poke_pers (o := .lst (vs ++ ws)) sf
          exact ⟨p, q, vs, ws, rfl, rfl, hp, hq, hz2, h1 φ1 _ _ (I1.turn (ownL_some e1) sp ⟨vs ++ ws, upd_same, by rw [List.length_append]; exact hz2, (rd.append rq).mono (Pre.refl _) ps⟩) (Mono.turn sf (ownL_some e1) sp) .non⟩
        · exact h1.elim
      · exact h1.elim
    · exact h.elim
end
end Dn
-- DnExc
/-! Dn: an error of the program's own classes: made through the root class's __init__ (super().__init__(x); self.thing = x), raised. -/
namespace Dn
open PySem PySem.Spec PyProof.Rows L2 PySem.Calls
open PySem.W (Frag Looks findIn typeIn subIn mroIn clsIn nsIn excInitIn excOver hasDictIn alongIn takerIn)

abbrev exM : List Value := [.type "Exception", .type "BaseException", .type "object"]
/-- what the written part says: C the class, Rt the root class with the __init__ fI -/
structure XcC (K : Frag) (C Rt fI : Addr) : Prop where
  made : excInitIn K C exM "Exception.__new__" = true
  ov : excOver K C exM = true
  ini : findIn K (.ref C) "__init__" = some (some (.ref fI))
  fn : typeIn K (.ref fI) = some (.type "function")
  sub : mroIn K C (.ref Rt) = some true
  sup : W.ks_superIn K C Rt "__init__" = some (some (.builtin "Exception.__init__"))
  isE : subIn K (.ref C) (.type "Exception") = some true
  isB : subIn K (.ref C) (.type "BaseException") = some true
  ty : typeIn K (.ref C) = some (.type "type")
  sa : findIn K (.ref C) "__setattr__" = some (some (.builtin "object.__setattr__"))
  tk : takerIn K C "thing" = some none
  hd : hasDictIn K C = true
  kC : W.keepIn K (.ref C) = true
  any : nsIn K cStatics "thirdparty.any" = some none
abbrev xScope : Scope := { kind := .function, names := [((PySem.Str.ofString "self" : Str), .local), (PySem.Str.ofString "thing", .local), (PySem.Str.ofString "__class__", .free), (PySem.Str.ofString "super", .globalImplicit)], isGenerator := false, isCoroutine := false, more := [] }
abbrev xSup (p0 p1 : Pos) : Expr := .Call (.Name "super" p0) [] [] p1
abbrev xCall (p0 p1 p2 p3 p4 : Pos) : Expr := .Call (.Attribute (xSup p0 p1) "__init__" p2) [.Name "thing" p3] [] p4
abbrev xBody (p0 p1 p2 p3 p4 p5 p6 p7 p8 p9 : Pos) : List Stmt := [.Expr (xCall p0 p1 p2 p3 p4) p5, .Assign [.Attribute (.Name "self" p6) "thing" p7] (.Name "thing" p8) p9]
/-- the root's __init__ -/
def XcF (P : Program) (K : Frag) (Rt fI : Addr) : Prop :=
  ∃ (oc : Value) (od : Option Addr) (osl : Array (Option Value)) (nm qual : Str) (params : Arguments) (dV kV doc pm ct : Value) (an : Option Addr) (cda cc : Addr) (p0 p1 p2 p3 p4 p5 p6 p7 p8 p9 : Pos)
    (ar : Arg) (vs : Array Value) (file : Str) (tf : Tok) (ccl cl : Value) (cdd cld : Option Addr) (ccs csl : Array (Option Value)),
    K.lookup fI = some ⟨oc, od, .func (W.ksFn nm qual params (xBody p0 p1 p2 p3 p4 p5 p6 p7 p8 p9) xScope dV kV doc pm an (.ref cda) ct cc), osl⟩ ∧
    W.codeIn K (.ref cda) qual = true ∧
    (∀ (a b : Value), bindArgs (W.ksFn nm qual params (xBody p0 p1 p2 p3 p4 p5 p6 p7 p8 p9) xScope dV kV doc pm an (.ref cda) ct cc) ⟨[a, b], []⟩ = pure [((PySem.Str.ofString "self" : Str), a), (PySem.Str.ofString "thing", b)]) ∧
    (params.posonlyargs ++ params.args).head? = some ar ∧ ar.arg = "self" ∧
    K.lookup cda = some ⟨ccl, cdd, .fields vs, ccs⟩ ∧ vs[2]? = some (.str file tf) ∧ ((P.main.file : Str) == file) = true ∧
    K.lookup cc = some ⟨cl, cld, .cell (some (.ref Rt)), csl⟩ ∧
    (∀ env : Env, ∃ pl : Sem Bool, eval (xCall p0 p1 p2 p3 p4) env = (do
      let ov ← attributeBase (xSup p0 p1) "__init__" env (eval (xSup p0 p1) env)
      standAt p2.atName
      let (f, first) ← holding [ov] (getMethod ov "__init__" pl)
      callWith p4 f first (backTo p4 (starEach [.Name "thing" p3] env)) [])) ∧
    (∀ env : Env, swapsWith (xCall p0 p1 p2 p3 p4) none p5.line env = pure false ∧ swapsWith (.Name "thing" p8) (some (.Attribute (.Name "self" p6) "thing" p7)) p9.line env = pure false) ∧
    (clsIn K Rt).isSome = true ∧ (P.main.scope.names.lookup ("super" : Str)).isSome = false
theorem data_cls {K : Frag} {C : Addr} (h : (clsIn K C).isSome = true) : ∃ oD cd, K.lookup C = some oD ∧ oD.data = .cls cd ∧ clsIn K C = some cd := by
  obtain ⟨cd, e⟩ := Option.isSome_iff_exists.mp h
  have e' := e
  unfold clsIn at e'
  split at e'
  · rename_i c d cd' sl ho
    cases e'
    exact ⟨_, _, ho, rfl, e⟩
  · cases e'
section
variable {P : Program} {w : World} {A : Around} {K : Frag} {mg : Str → Option Value} {base : Heap} {C Rt fI : Addr}
/-- the walk of the root's __init__ -/
theorem root_init (T : XcC K C Rt fI) (F : XcF P K Rt fI) (Mo : Mod K mg base) (msup : mg "super" = none) {h : Heap} {g : Array GenState} {d : Drawn} {t : Nat} {os : OsState} {e t0 : Addr} {u : Value} {R : Result → Shared → Prop}
    (hroom : A.depth < recursionLimit) (hb : ∀ b o, base.get? b = some o → h.get? b = some o) (he : h.get? e = some (HandSPX.excO C t0)) (he0 : base.get? e = none)
    (hq : ∀ h' t' t1 dx, (∀ b o, b ≠ e → h.get? b = some o → h'.get? b = some o) → h.objs.size ≤ dx → dx ≠ e → h'.get? e = some ({ cls := .ref C, dict := some dx, data := .fields #[.ref t1, .none, .none, .none, .bool false, .none] } : Obj) →
      h'.Ns1 dx (fun y => if y = "thing" then some u else none) → R (.ok (.ret .none)) ⟨h', g, d, t', os⟩) :
    codeAny (model P w) A (.call (.ref fI) ⟨[.ref e, u], []⟩) R ⟨h, g, d, t, os⟩ := by
  obtain ⟨oc, od, osl, nm, qual, params, dV, kV, doc, pm, ct, an, cda, cc, p0, p1, p2, p3, p4, p5, p6, p7, p8, p9, ar, vs, file, tf, ccl, cl, cdd, cld, ccs, csl, lkF, hcd, hbd, har, has, lkC, hvs, hfile, lkc, hev, hsw, hR, htop⟩ := F
  have kin : K.In h := Mo.kin.keeps hb
  obtain ⟨oD, cdD, lkD, hDd, clD⟩ := data_cls hR
  have ho := kin _ _ lkF
  refine ks_codeAny_call_defAt (body := xBody p0 p1 p2 p3 p4 p5 p6 p7 p8 p9) (binds := [("self", .ref e), ("thing", u)]) hroom ho rfl (Mo.nolimit.keeps hb) (W.codeRec_of kin hcd) rfl (BindsTo.of_eq (hbd _ _)) (by show ∀ x ∈ xScope.names, x.2 ≠ .cell; decide) (fun x hx => ?_) (fun h1 hns k1 => ?_)
  · rcases List.mem_cons.mp hx with rfl | hx
    · rfl
    · rcases List.mem_cons.mp hx with rfl | hx
      · rfl
      · cases hx
  have hb1 : ∀ b o, base.get? b = some o → h1.get? b = some o := fun b o z => k1 b o (hb b o z)
  have kin1 : K.In h1 := Mo.kin.keeps hb1
  have he1 := k1 _ _ he
  obtain ⟨pl, hev⟩ := hev (callEnv (W.ksFn nm qual params (xBody p0 p1 p2 p3 p4 p5 p6 p7 p8 p9) xScope dV kV doc pm an (.ref cda) ct cc) h.objs.size fI)
  refine ks_wpAt_execs_cons (ks_wpAt_Expr_any (ks_wpAt_MethodCall ?_ hev) rfl (hsw _).1)
  refine ks_wpAt_super_base rfl rfl (by decide) rfl (kin1 _ _ lkF) rfl har rfl (kin1 _ _ lkC) rfl hvs hfile htop ?_
  obtain ⟨mb, hmb, bmb⟩ := Mo.blt
  refine W.ks_loadName_global rfl rfl (loadGlobal_builtin (Mo.glob.keeps hb1) msup (hmb.keeps hb1) ((bmb "super" (by decide)).trans (by decide +kernel)) ⟨rfl, ?_⟩)
  refine wpAny_loadName_free rfl rfl rfl ⟨_, kin1 _ _ lkc, rfl⟩ ?_
  rw [has]
  refine wpAny_loadName_local rfl rfl hns (v := .ref e) (by rfl) ?_
  refine ks_wpAny_isType_cls (kin1 _ _ lkD) hDd ⟨rfl, ?_⟩
  refine ks_wpAny_call_super (kin1 _ _ lkD) hDd he1 rfl (fun c z => nomatch z) (W.looks_mroIn kin1 T.sub) (fun h2 e2 k2 => ?_)
  have kin2 : K.In h2 := kin1.keeps k2
  have he2 := k2 _ _ he1
  have I2 : W.InstAt h2 e (HandSPX.excO C t0) C none := ⟨he2, rfl, rfl, trivial⟩
  have isX : Looks (model P w) h2 (isInstance (.ref e) (.type "Exception")) true := I2.type.andThen (W.looks_subIn kin2 T.isE)
  obtain ⟨cdC, eC⟩ := Option.isSome_iff_exists.mp (show (clsIn K C).isSome = true from by
    obtain ⟨cd, z, _⟩ := W.any_some T.hd
    rw [z]; rfl)
  have sup := T.sup
  unfold W.ks_superIn at sup
  rw [eC] at sup
  refine W.kxs_getMethod W.kxs_Exception e2 (W.looks_opaque kin2 T.any) (l₀ := cdC.mro) (fun A Q E s k q => wpAny_bind ((W.looks_clsIn kin2 eC) A _ E s k (wpAny_pure q))) rfl kin2 sup isX (W.ks_ne kin2 I2 eC) (by decide) ?_
  have hu : (h2.push (ESX.bw e)).get? h2.objs.size = some (ESX.bw e) := Heap.get?_push_at rfl rfl
  have k3 : ∀ b o, h2.get? b = some o → (h2.push (ESX.bw e)).get? b = some o := fun b o z => Heap.get?_push_of_some _ z
  have ldV : ∀ {h3 : Heap} {g3 : Array GenState} {d3 : Drawn} {t3 : Nat} {os3 : OsState} {p : Pos} {A' : Around} {E' : Value → Shared → Prop} {Q' : Value → Shared → Prop} (x : Str) (v : Value), (callEnv (W.ksFn nm qual params (xBody p0 p1 p2 p3 p4 p5 p6 p7 p8 p9) xScope dV kV doc pm an (.ref cda) ct cc) h.objs.size fI).kindOf x = some .local →
      [((PySem.Str.ofString "self" : Str), Value.ref e), (PySem.Str.ofString "thing", u)].reverse.lookup x = some v → (x == ("__debug__" : Str)) = false → (∀ o, h1.get? h.objs.size = some o → h3.get? h.objs.size = some o) → Q' v ⟨h3, g3, d3, t3, os3⟩ →
      wpAny (model P w) A' (eval (.Name x p) (callEnv (W.ksFn nm qual params (xBody p0 p1 p2 p3 p4 p5 p6 p7 p8 p9) xScope dV kV doc pm an (.ref cda) ct cc) h.objs.size fI)) Q' E' ⟨h3, g3, d3, t3, os3⟩ := fun x v hk hv hd k q =>
    wpAny_Name (wpAny_loadName_local rfl hk (hns.at k) hv q) hd
  refine ESX.callWith_bound (x := e) (spliced_cons (ldV "thing" u rfl rfl (by decide) (fun o z => k3 _ o (k2 _ o z)) (spliced_nil ⟨hu, ?_⟩))) rfl rfl
  obtain ⟨nm', N', qn, bs, bm, hdct, sn, sub, ab, col, dd, q0, q1, q2, q3, q5, hC, hbm⟩ := W.excInit_of kin2 T.made
  refine ESX.call_bw (k3 _ _ hC) (k3 _ _ he2) hu (by show 1 ≤ sizeLine; rw [sizeLine_eq]; omega) fun h4 t1 k4 e4 => ?_
  refine ks_wpAt_execs_cons (ks_wpAt_Assign_Attr ?_ (hsw _).2)
  have eL : h.objs.size ≠ e := (Nat.ne_of_lt (Heap.lt_size he)).symm
  have kL : ∀ o, h1.get? h.objs.size = some o → h4.get? h.objs.size = some o := fun o z => k4 _ o eL (k3 _ o (k2 _ o z))
  have kin4 : K.In h4 := fun b o z => k4 b o (fun y => by
    have z' := Mo.kin b o z
    rw [y, he0] at z'
    cases z') (k3 b o (kin2 b o z))
  refine wpAt_of_wpAny (ldV "thing" u rfl rfl (by decide) kL (ldV "self" (.ref e) rfl rfl (by decide) kL ?_))
  have I4 : W.InstAt h4 e (HandSPX.excO C t1) C none := ⟨e4, rfl, rfl, trivial⟩
  obtain ⟨cd5, c5, d5⟩ := W.any_some T.hd
  refine W.set_plain kin4 I4 T.sa (W.osa_openX PySem.F.store_Exception kin4 I4 T.ov T.tk fun b => ?_)
  refine wpAny_bind (wpAny_pure (wpAny_bind (W.instanceDict_exc (C := C) (t := t1) (c2 := .none) e4 (W.looks_clsIn kin4 c5) d5 ?_)))
  have hes : e ≠ h4.objs.size := Nat.ne_of_lt (Heap.lt_size e4)
  refine HandSPX.store_in_new (dx := h4.objs.size) ⟨_, #[], _, (Heap.get?_update_ne _ _ _ _ hes.symm).trans (Heap.get?_push_at rfl rfl), rfl, fun e he => absurd he (by simp), fun _ => rfl⟩ fun h5 tk5 n5 s5 => ?_
  have z5 : h.objs.size ≤ h4.objs.size := by
    have hL : h.objs.size < h4.objs.size := by
      obtain ⟨o, _, _, z, _⟩ := hns
      exact Heap.lt_size (kL o z)
    exact Nat.le_of_lt hL
  refine wpAt_of_wpAny (wpAny_execs_nil ?_)
  refine hq h5 _ t1 h4.objs.size (fun b o hbe z => ?_) z5 hes.symm ?_ n5
  · have z4 := k4 b o hbe (k3 b o (k2 b o (k1 b o z)))
    exact (s5.2 b (Nat.ne_of_lt (Heap.lt_size z4))).trans ((Heap.get?_update_ne _ _ _ _ hbe).trans (Heap.get?_push_of_some _ z4))
  · exact (s5.2 e hes).trans (Heap.get?_update_self _ (Heap.get?_push_of_some _ e4) rfl)
end
section
variable {X : Cx} {C Rt fI : Addr} {k : Nat} {x : Str} {p pos : Pos} {a : Expr} {ta : TA}
theorem pmk_root (T : XcC X.K C Rt fI) (F : XcF X.prog X.K Rt fI) (msup : X.mg "super" = none) (hr : Room (k + 1) X.A) (hg : Gl X x) (hm : X.mg x = some (.ref C)) (ha : PA X [a] ta)
    (hdb : (x == ("__debug__" : Str)) = false := by decide) (he : starEach [a] X.env = (false, eval a X.env) :: starEach [] X.env := by rfl) (hpl : (backTo pos (starEach [] X.env)).any (·.1) = false := by rfl) :
    PMk X (.Call (.Name x p) [a] [] pos) (fun σ H Q => ta σ H fun vs H1 => ∃ v, vs = [v] ∧ ∀ d, H1 d = none → Q (.ref C) (some d) (upd H1 d (.xd [(("thing" : Str), v)]))) := by
  intro pins s σ H Q I h
  refine wpAny_Call_Name_kw (ld_glob I hg hm ?_ hdb)
  refine PySem.W.callWith_K (h₀ := X.base) I.ok.mod.kin T.kC (thn (ha.run pos pins s σ H _ I h) fun us s1 ⟨vs, H1, I1, r1, v, ev, q1⟩ => ⟨I1.kIn, ?_⟩) he hpl
  show wpAny _ _ (call (.ref C) us) _ _ _
  subst ev
  cases r1 with
  | @cons _ u _ _ ru rn =>
  cases rn
  obtain ⟨hp, g, dr, tk, os⟩ := s1
  obtain ⟨nm', N', qn, bs, bm, hdct, sn, sub, ab, col, dd, z0, z1, z2, z3, z5, hC, hbm⟩ := W.excInit_of I1.kIn T.made
  have kk : ∀ b o, hp.get? b = some o → ((hp.push (PySem.W.kdv_tup [u])).push (PySem.HandSPX.excO C hp.objs.size)).get? b = some o := fun b o e => Heap.get?_push_of_some _ (Heap.get?_push_of_some _ e)
  have hget : ((hp.push (PySem.W.kdv_tup [u])).push (PySem.HandSPX.excO C hp.objs.size)).get? (hp.objs.size + 1) = some (PySem.HandSPX.excO C hp.objs.size) := by heap_get
  have hbase : ∀ b o, X.base.get? b = some o → hp.get? b = some o := I1.bk
  have hb0 : X.base.get? (hp.objs.size + 1) = none := by
    cases z : X.base.get? (hp.objs.size + 1) with
    | none => rfl
    | some o => exact absurd (Heap.lt_size (hbase _ _ z)) (Nat.not_lt.mpr (Nat.le_succ _))
  have nne : ∀ b o, hp.get? b = some o → b ≠ hp.objs.size + 1 := fun b o z y => absurd (Heap.lt_size z) (by rw [y]; exact Nat.not_lt.mpr (Nat.le_succ _))
  refine wpAny_call (PySem.HandSPX.call_own PySem.F.excBase_Exception hbm hC (PySem.W.looks_findIn I1.kIn T.ini) (fun self => PySem.W.bind_fn I1.kIn self T.fn) (by show 1 ≤ sizeLine; rw [sizeLine_eq]; omega)
    (root_init T F I1.ok.mod msup (by have := (hr.make C [u] []).dp; omega) (fun b o z => kk b o (hbase b o z)) hget hb0 fun h' t' t1 dx k hz hne he' hn => ⟨rfl, ?_⟩))
  have kh : ∀ b o, hp.get? b = some o → h'.get? b = some o := fun b o z => k b o (nne b o z) (kk b o z)
  have hdz : hp.objs.size ≤ dx := by
    have : hp.objs.size ≤ ((hp.push (PySem.W.kdv_tup [u])).push (PySem.HandSPX.excO C hp.objs.size)).objs.size := by rw [Heap.size_push, Heap.size_push]; exact Nat.le_trans (Nat.le_succ _) (Nat.le_succ _)
    exact Nat.le_trans this hz
  obtain ⟨G, g1', g2'⟩ := restrict h' fun b => decide (b ≠ hp.objs.size + 1)
  have gk : ∀ b, b ≠ hp.objs.size + 1 → G.get? b = h'.get? b := fun b hb => g1' b (decide_eq_true hb)
  have ge : G.get? (hp.objs.size + 1) = none := g2' _ (by simp)
  have kG : ∀ b o, hp.get? b = some o → G.get? b = some o := fun b o z => by
    rw [gk b (nne b o z)]
    exact kh b o z
  have J := I1.laid (t' := t') (a := dx) (o := .xd [(("thing" : Str), v)]) (h' := G) kG hdz ⟨_, hn.at fun o y => (gk dx hne).trans y, relO_put (fs := []) ru fun _ => True.intro⟩
  refine ⟨hp.objs.size + 1, _, _, _, _, .ref C, some dx, rfl, J, fun b o z => ?_, ge, he', ⟨rfl, rfl⟩, rfl, rfl, ?_, rfl, I1.bare, raises_own T.isB T.ty, q1 dx (I1.hok.fresh hdz)⟩
  · by_cases hb : b = hp.objs.size + 1
    · rw [hb, ge] at z
      cases z
    · exact (gk b hb).symm.trans z
  · rw [upd_ne (Ne.symm hne)]
    exact I1.hok.fresh (Nat.le_succ _)
end
section
variable {X : Cx} {Γ : Gc} {W : WX} {C Rt fI : Addr} {k : Nat} {x : Str} {p pos pos2 : Pos} {a : Expr} {F : E D}
def sRaise (n : Str) (F : E D) : FS := fun ρ M => (F ρ M).thn fun d ρ M => .exc n d ρ M
/-- raise C(e) -/
theorem s_raise (tk : Takes X W) (hc : X.calm = true) (T : XcC X.K C Rt fI) (Ff : XcF X.prog X.K Rt fI) (msup : X.mg "super" = none) (hr : Room (k + 1) X.A) (hg : Gl X x) (hm : X.mg x = some (.ref C)) (ha : PE X a (tE Γ W F)) (hM : X.mg = Γ.mg := by rfl)
    (hdb : (x == ("__debug__" : Str)) = false := by decide) (he : starEach [a] X.env = (false, eval a X.env) :: starEach [] X.env := by rfl) (hpl : (backTo pos (starEach [] X.env)).any (·.1) = false := by rfl) :
    PS X (.Raise (some (.Call (.Name x p) [a] [] pos)) none pos2) (tS Γ W (sRaise x F)) :=
  PSimp (ps_raise hc tk (pmk_root T Ff msup hr hg hm (a_cons ha a_nil he) hdb he hpl)) fun Dn σ H ⟨φ, ρ, M, I, h⟩ => by
    have h2 : OutS Γ W φ ρ σ H Dn ((eCons F eNil ρ M).thn fun ds => fun ρ M => match ds with
        | [d] => .exc x d ρ M
        | _ => .stuck) := by
      unfold sRaise at h
      unfold eCons eBind eNil eOk
      cases e : F ρ M with
      | ok d ρ' M' => rw [e] at h; exact h
      | exc n t ρ' M' => rw [e] at h; exact h
      | stuck => rw [e] at h; exact h
    refine tX.thn I h2 fun φ1 ρ1 M1 H1 vs ds I1 m1 r h1 => ?_
    cases r with
    | nil => exact h1.elim
    | @cons v _ d _ av rr =>
      cases rr with
      | cons _ _ => exact h1.elim
      | nil =>
        refine ⟨v, rfl, fun dx hn => ?_⟩
        exact h1 φ1 _ σ dx v C (I1.new hn) (Mono.new hn) (hM ▸ hm) upd_same (av.mono (Pre.refl _) (pers_new hn))
end
end Dn
-- DnTry
/-! Dn: try with several clauses, with and without 'as'; what the suites ask of the caught error. -/
namespace Dn
open PySem PySem.Spec PyProof.Rows L2

abbrev Wsh := Addr → Value → Option Addr → Ends → L2.St → Hp → Prop
/-- what the clauses, one behind the other, wish of an error of the body -/
def clW (K : PySem.W.Frag) (Wo : WX) (En : Ends) : List (Value × Wsh) → WX
  | [] => Wo
  | (c, wi) :: more => fun cls d σ H => ∃ yes, PySem.W.exmOne K cls c = some yes ∧ if yes = true then ∀ a, H a = none → wi a cls d En σ H else clW K Wo En more cls d σ H
def atEnd (i : Nat) (En : Ends) : Ends := { nx := fun τ G => En.nx (τ.set i none) G, rt := En.rt, bk := fun τ G => En.bk (τ.set i none) G, ct := fun τ G => En.ct (τ.set i none) G }
inductive Cls (X : Cx) : List ExceptHandler → List (Value × Wsh) → Prop
  | nil : Cls X [] []
  | bare {x : Str} {c : Value} {ts : Addr → Value → Option Addr → TS} {st : Stmt} {sts : List Stmt} {q q' : Pos} {hs : List ExceptHandler} {l : List (Value × Wsh)} (nc : Names X x c)
      (su : ∀ (a : Addr) (o : Obj) (cls : Value) (d : Option Addr) (pn : List (Addr × Obj)), Zc cls d o → (∃ f, o.data = .fields f) → PSs (X.suite a ((a, o) :: pn)) (st :: sts) (ts a cls d)) (r : Cls X hs l) :
      Cls X (.ExceptHandler (some (.Name x q)) none (st :: sts) q' :: hs) ((c, fun a cls d En σ H => ts a cls d En σ H) :: l)
  | named {x n : Str} {i : Nat} {c : Value} {ts : Addr → Value → Option Addr → TS} {st : Stmt} {sts : List Stmt} {q q' : Pos} {hs : List ExceptHandler} {l : List (Value × Wsh)} (nc : Names X x c) (nd : X.N.Nodup) (ix : X.N[i]? = some n) (lo : X.env.kindOf n = some .local)
      (su : ∀ (a : Addr) (o : Obj) (cls : Value) (d : Option Addr) (pn : List (Addr × Obj)), Zc cls d o → (∃ f, o.data = .fields f) → PSs (X.suite a ((a, o) :: pn)) (st :: sts) (ts a cls d)) (r : Cls X hs l) :
      Cls X (.ExceptHandler (some (.Name x q)) (some n) (st :: sts) q' :: hs) ((c, fun a cls d En σ H => ts a cls d (atEnd i En) (σ.set i (some (.ref a))) H) :: l)
section
variable {X : Cx} {body : List Stmt} {h₀ : ExceptHandler} {hds : List ExceptHandler} {l : List (Value × Wsh)} {pos : Pos} {tb : WX → TS} {Wo : WX}
theorem ps_try_all (sk : X.stack = X.env :: X.outer) (fr : X.env.frame = some X.env.locals) (tk : Takes X Wo)
    (bo : ∀ (W : WX) (pn : List (Addr × Obj)) (xe : Value → Shared → Prop), Takes (X.tr pn xe) W → PassesOwn (model X.prog X.w) X.A X.env xe → PSs (X.tr pn xe) body (tb W))
    (cl : Cls X (h₀ :: hds) l) : PS X (.Try body (h₀ :: hds) [] [] pos) (fun En σ H => tb (clW X.K Wo En l) En σ H) := by
  refine ⟨fun pins s σ H En I h => ?_⟩
  have ok := I.ok
  have frA : X.A.frames = some (X.env :: X.outer) := by rw [ok.frames, sk]
  refine wpAny_Try_except ?_
  refine wpAny_mono ((bo (clW X.K Wo En l) (X.pn ++ pins) (fun e s₁ => wpAny (model X.prog X.w) X.A (noteFrame e X.env) (fun _ s₂ =>
    wpAny (model X.prog X.w) X.A (setFlight e none) (fun _ s₃ => wpAny (model X.prog X.w) X.A (handleBy e X.env (h₀ :: hds)) (SP X pins En) X.xe s₃) X.xe s₂) X.xe s₁)
    (fun u s' air => ?_) PassesOwn.looking).run [] s σ H En (I.toTry _) h) (fun f s1 sp => ?_) (fun e s1 he => he)
  · obtain ⟨a, B, sI, pins', τ, G, cls, d, rfl, J', nb, up, sky, na, os, ag, wi⟩ := air
    have J : Inv X pins τ G sI := J'.ofTry ok
    refine Sky.land (B := B) Zc.steady frA fr (by rw [← sk]; exact sky) fun h3 fl3 up3 => ?_
    have J3 : Inv X pins τ G { s' with heap := h3 } := J.landed nb fl3.1 (up.trans up3) os ag
    obtain ⟨o3, f3, g3, z3, d3⟩ := fl3.there
    have noF : a ∉ frs (X.env :: X.outer) := fun hm => by
      obtain ⟨_, o', e', hnf⟩ := fl3.2.2.1.mem hm
      rw [g3] at e'; cases e'
      exact hnf _ d3
    have noL : a ≠ X.env.locals := fun z => noF (List.mem_filterMap.mpr ⟨X.env, List.mem_cons_self, by rw [fr, z]⟩)
    have noO : a ∉ X.fs := fun hm => by
      obtain ⟨e, he, q⟩ := List.mem_filterMap.mp hm
      exact noF (List.mem_filterMap.mpr ⟨e, List.mem_cons_of_mem _ he, q⟩)
    have S3 := J3.suite g3 d3 na noL noO
    have LT : PySem.W.Looks (model X.prog X.w) h3 (typeOf (.ref a)) cls := fun A Q E s k q => wpAny_typeOf_ref (k _ _ g3) (by rw [z3.1]; exact q)
    have test : ∀ {x : Str} {c : Value} {q : Pos} {Q : Value → Shared → Prop} {E : Value → Shared → Prop}, Names X x c → Q c { s' with heap := h3 } → wpAny (model X.prog X.w) (X.A.mark (some (.ref a))) (eval (.Name x q) X.env) Q E { s' with heap := h3 } := fun nc hq => by
      obtain ⟨hg, hdb, hm | ⟨hm, hv, hnn⟩⟩ := nc
      · exact ld_glob (X := X.suite a ((a, o3) :: (X.pn ++ pins))) S3 hg hm hq hdb
      · exact ld_blt (X := X.suite a ((a, o3) :: (X.pn ++ pins))) S3 hg hm hv hq hnn hdb
    have walk : ∀ {hs' : List ExceptHandler} {l' : List (Value × Wsh)}, Cls X hs' l' → clW X.K Wo En l' cls d τ G → wpAny (model X.prog X.w) X.A (handleBy (.ref a) X.env hs') (SP X pins En) X.xe { s' with heap := h3 } := by
      intro hs' l' k
      induction k with
      | nil =>
        intro wi
        refine wpAny_handleBy_nil ?_
        obtain ⟨_, _, _, oe, vs, T, oT, ts', he, hz, hd, h1, hr⟩ := id fl3
        unfold PySem.passOn
        refine wpAny_bind (wpAny_field he hd h1 ?_)
        rw [if_neg (by simp)]
        have last : wpAny (model X.prog X.w) X.A (setFlight (.ref a) X.env.frame) (fun _ s4 => wpAny (model X.prog X.w) X.A (throw (.ref a) : Sem Flow) (SP X pins En) X.xe s4) X.xe { s' with heap := h3 } := by
          rw [fr]
          exact HandSPX.setFlight_upZ fl3 fun h4 hh4 up4 => wpAny_throw (tk _ _ ⟨a, B, sI, pins, τ, G, cls, d, rfl, J, nb, (up.trans up3).trans up4, .inr (.inr (by rw [sk]; exact hh4)), na, os, ag, wi⟩)
        first
          | exact wpAny_bind (wpAny_pure (wpAny_bind last))
          | exact wpAny_bind last
      | @bare x c ts st sts q q' hs2 l2 nc su r ih =>
        intro ⟨yes, ex, wi⟩
        refine wpAny_handleBy_cons (codeAny_handlers_test ?_) (by intro q; cases q)
        refine test nc ((PySem.W.exm_one (M := model X.prog X.w) J3.kIn LT ex).here ?_)
        cases yes with
        | true =>
          rw [if_pos rfl] at wi
          refine codeAny_handlers_suite (HandSPX.lands_againZ fl3 fun h4 fl4 up4 => ?_)
          obtain ⟨o4, f4, g4, z4, d4⟩ := fl4.there
          have S4 := (J.landed nb fl4.1 ((up.trans up3).trans up4) os ag : Inv X pins τ G { s' with heap := h4 }).suite g4 d4 na noL noO
          refine wpAny_mono ((su a o4 cls d (X.pn ++ pins) z4 ⟨_, d4⟩).run [] _ _ G _ S4 (wi a na)) (fun f s6 sp => ?_) (fun _ _ z => False.elim z)
          rcases f with _ | _ | _ | u
          · obtain ⟨τ6, G6, S6, q6⟩ := sp; exact ⟨_, _, S6.unsuite ok, q6⟩
          · obtain ⟨τ6, G6, S6, q6⟩ := sp; exact ⟨_, _, S6.unsuite ok, q6⟩
          · obtain ⟨τ6, G6, S6, q6⟩ := sp; exact ⟨_, _, S6.unsuite ok, q6⟩
          · obtain ⟨v6, τ6, G6, S6, r6, q6⟩ := sp; exact ⟨_, _, _, S6.unsuite ok, r6, q6⟩
        | false => exact ih (by rw [if_neg Bool.false_ne_true] at wi; exact wi)
      | @named x n i c ts st sts q q' hs2 l2 nc nd ix lo su r ih =>
        intro ⟨yes, ex, wi⟩
        refine wpAny_handleBy_cons (codeAny_handlers_test ?_) (by intro q; cases q)
        refine test nc ((PySem.W.exm_one (M := model X.prog X.w) J3.kIn LT ex).here ?_)
        cases yes with
        | true =>
          rw [if_pos rfl] at wi
          refine codeAny_handlers_suite_as (HandSPX.lands_againZ fl3 fun h4 fl4 up4 => ?_)
          obtain ⟨o4, f4, g4, z4, d4⟩ := fl4.there
          have S4 := (J.landed nb fl4.1 ((up.trans up3).trans up4) os ag : Inv X pins τ G { s' with heap := h4 }).suite g4 d4 na noL noO
          refine store_ok (X := X.suite a ((a, o4) :: (X.pn ++ pins))) (v := .ref a) S4 nd ix (.inl lo) rfl (fun s5 S5 => ?_) (.inr lo)
          refine wpAny_mono ((su a o4 cls d (X.pn ++ pins) z4 ⟨_, d4⟩).run [] s5 _ G _ S5 (wi a na)) (fun f s6 sp => ?_) (fun _ _ z => False.elim z)
          have away : ∀ {τ6 : L2.St} {G6 : Hp} {Q : Shared → Prop}, Inv (X.suite a ((a, o4) :: (X.pn ++ pins))) [] τ6 G6 s6 → (∀ s7, Inv X pins (τ6.set i none) G6 s7 → Q s7) →
              wpAny (model X.prog X.w) X.A (do bindName X.env n .none; unbindBehindTheSuite X.env n q') (fun _ s7 => Q s7) X.xe s6 := fun S6 hq => gone_ok (S6.unsuite ok) nd ix lo hq
          rcases f with _ | _ | _ | u
          · obtain ⟨τ6, G6, S6, q6⟩ := sp; exact away S6 fun s7 J7 => ⟨_, _, J7, q6⟩
          · obtain ⟨τ6, G6, S6, q6⟩ := sp; exact away S6 fun s7 J7 => ⟨_, _, J7, q6⟩
          · obtain ⟨τ6, G6, S6, q6⟩ := sp; exact away S6 fun s7 J7 => ⟨_, _, J7, q6⟩
          · obtain ⟨v6, τ6, G6, S6, r6, q6⟩ := sp; exact away S6 fun s7 J7 => ⟨_, _, _, J7, r6, q6⟩
        | false => exact ih (by rw [if_neg Bool.false_ne_true] at wi; exact wi)
    exact walk cl wi
  · rcases f with _ | _ | _ | u
    · obtain ⟨τ, G, J', q⟩ := sp; exact wpAny_execs_nil ⟨τ, G, J'.ofTry ok, q⟩
    · obtain ⟨τ, G, J', q⟩ := sp; exact ⟨τ, G, J'.ofTry ok, q⟩
    · obtain ⟨τ, G, J', q⟩ := sp; exact ⟨τ, G, J'.ofTry ok, q⟩
    · obtain ⟨v, τ, G, J', r, q⟩ := sp; exact ⟨v, τ, G, J'.ofTry ok, r, q⟩
end

/-! ### what the suites ask of the caught error: its thing, its class -/
/-- what the written part says of an error's class -/
structure XcS (K : PySem.W.Frag) (C : Addr) : Prop where
  xf : XfC K C
  th : PySem.W.findIn K (.ref C) "thing" = some none
  cl : (PySem.W.clsIn K C).isSome = true
  cla : PySem.W.findIn K (.ref C) "__class__" = some (some (.builtin "object.__class__"))
  spc : PySem.W.specialIn K (.builtin "object.__class__") "__get__" = some (some (.builtin "getset_descriptor.__get__"))
  tks : PySem.W.takesIn K (.builtin "object.__class__") = some true
  obj : PySem.W.mroIn K C (.type "object") = some true
/-- the caught error: n its class's name, t its thing -/
def Caught (Γ : Gc) (kn : Str → Bool) (i : Nat) (a : Addr) (cls : Value) (d : Option Addr) (n : Str) (t : D) (φ : List Addr) (σ : L2.St) (H : Hp) : Prop :=
  ∃ (C dd : Addr) (v : V), cls = .ref C ∧ d = some dd ∧ kn n = true ∧ Γ.mg n = some (.ref C) ∧ XcS Γ.K C ∧ σ[i]? = some (some (.ref a)) ∧ H dd = some (.xd [(("thing" : Str), v)]) ∧ At Γ φ H v t
abbrev It1 := Str → D → Option D
abbrev ItS := Str → D → Option (List D)
def tIt (Γ : Gc) (kn : Str → Bool) (i : Nat) (a : Addr) (cls : Value) (d : Option Addr) (g : It1) : TE := fun σ H Q => ∃ n t φ r, Caught Γ kn i a cls d n t φ σ H ∧ g n t = some r ∧ ∀ w, At Γ φ H w r → Q w H
def tIts (Γ : Gc) (kn : Str → Bool) (i : Nat) (a : Addr) (cls : Value) (d : Option Addr) (g : ItS) : TA := fun σ H Q => ∃ n t φ r, Caught Γ kn i a cls d n t φ σ H ∧ g n t = some r ∧ ∀ w, Ats Γ φ H w r → Q w H
def iNil : ItS := fun _ _ => some []
def iCons (g : It1) (gs : ItS) : ItS := fun n t => (g n t).bind fun r => (gs n t).map (r :: ·)
def iC (d : D) : It1 := fun _ _ => some d
def iThing : It1 := fun _ t => some t
def iIs (f : Str → Bool) : It1 := fun n _ => some (.bl (f n))
def iIf (f : Str → Bool) (g1 g2 : It1) : It1 := fun n t => if f n = true then g1 n t else g2 n t
section
variable {X : Cx} {Γ : Gc} {kn : Str → Bool} {i : Nat} {a : Addr} {o : Obj} {cls : Value} {d : Option Addr} {pn : List (Addr × Obj)} {e e2 e3 : Expr} {es : List Expr} {g g1 g2 : It1} {gs : ItS} {x y : Str} {p p2 p3 pos : Pos}
abbrev SuX (X : Cx) (a : Addr) (o : Obj) (pn : List (Addr × Obj)) : Cx := X.suite a ((a, o) :: pn)
theorem i_nil : PA (SuX X a o pn) [] (tIts Γ kn i a cls d iNil) := PAimp pa_nil fun σ H Q ⟨n, t, φ, r, c, e, k⟩ => by
  cases e
  exact k _ .nil
theorem i_cons (h1 : PE (SuX X a o pn) e (tIt Γ kn i a cls d g)) (h2 : PA (SuX X a o pn) es (tIts Γ kn i a cls d gs)) (hs : starEach (e :: es) (SuX X a o pn).env = (false, eval e (SuX X a o pn).env) :: starEach es (SuX X a o pn).env := by rfl) : PA (SuX X a o pn) (e :: es) (tIts Γ kn i a cls d (iCons g gs)) :=
  PAimp (pa_cons h1 h2 hs) fun σ H Q ⟨n, t, φ, r, c, e, k⟩ => by
    unfold iCons at e
    obtain ⟨r1, e1, e2⟩ := Option.bind_eq_some_iff.mp e
    obtain ⟨rs, e3, rfl⟩ := Option.map_eq_some_iff.mp e2
    exact ⟨n, t, φ, r1, c, e1, fun w aw => ⟨n, t, φ, rs, c, e3, fun ws aws => k _ (.cons aw aws)⟩⟩
theorem i_c {v : V} {r : D} (h : PE (SuX X a o pn) e (tC v)) (av : ∀ φ H, At Γ φ H v r) : PE (SuX X a o pn) e (tIt Γ kn i a cls d (iC r)) := PEimp h fun σ H Q ⟨n, t, φ, r', c, e, k⟩ => by
  cases e
  exact k _ (av φ H)
theorem i_str {z : Str} {j : Nat} : PE (SuX X a o pn) (.Constant (.str z) j pos) (tIt Γ kn i a cls d (iC (.str z))) := i_c pe_str fun _ _ => .str z
theorem i_thing (hz : Zc cls d o) (hf : ∃ f, o.data = .fields f) (hv : PE (SuX X a o pn) (.Name y p) (tVar i)) (hx : ∀ n C, kn n = true → Γ.mg n = some (.ref C) → XcS Γ.K C) (hK : X.K = Γ.K := by rfl)
    (hb : attributeBase (.Name y p) "thing" (SuX X a o pn).env (eval (.Name y p) (SuX X a o pn).env) = eval (.Name y p) (SuX X a o pn).env := by rfl) :
    PE (SuX X a o pn) (.Attribute (.Name y p) "thing" pos) (tIt Γ kn i a cls d iThing) := by
  refine ⟨fun pins s σ H Q I h => ?_⟩
  obtain ⟨n, t, φ, r, ⟨C, dd, v, e1, e2, k1, m1, xs, s1, h1, a1⟩, er, k⟩ := id h
  cases er
  subst e1 e2
  exact (pe_xf (X := X) (C := C) (by rw [hK]; exact xs.xf) (by rw [hK]; exact xs.th) hz hf hv hb).run pins s σ H Q I ⟨.ref a, s1, rfl, rfl, dd, _, v, rfl, h1, rfl, k v a1⟩
/-- isinstance(e, C), e the caught error -/
def rIsX (Γ : Gc) (kn : Str → Bool) (i : Nat) (a : Addr) (cls : Value) (d : Option Addr) (Dc : Addr) (f : Str → Bool) : List V → Hp → VK → Prop := fun xs H Q =>
  ∃ n t φ σ, Caught Γ kn i a cls d n t φ σ H ∧ PySem.W.kitOne Γ.K cls (.ref Dc) = some (f n) ∧ xs = [.ref a, .ref Dc] ∧ Q (.bl (f n)) H
theorem call_isX {Dc : Addr} {f : Str → Bool} (hz : Zc cls d o) (hf : ∃ v, o.data = .fields v) (hK : X.K = Γ.K) : CallR (SuX X a o pn) (.builtin "isinstance") (rIsX Γ kn i a cls d Dc f) := by
  intro pins s σ H xs us Q I r h
  obtain ⟨n, t, φ, τ, ⟨C, dd, v, e1, e2, k1, m1, cs, s1, h1, a1⟩, ki, rfl, q⟩ := h
  subst e1 e2
  cases r with
  | @cons _ u1 _ _ rx rr =>
    cases rr with
    | @cons _ u2 _ _ rt rr =>
      cases rr
      obtain rfl : u1 = Value.ref a := rx
      obtain rfl : u2 = Value.ref Dc := rt
      obtain ⟨hget, _⟩ := I.pin (a, o) (List.mem_append.mpr (.inl List.mem_cons_self))
      obtain ⟨vs, hv⟩ := hf
      obtain ⟨od, hod⟩ := objOk_get (I.hok dd _ h1)
      have J : PySem.W.InstAt s.heap a o C (some od) := by
        obtain ⟨oc, odd, oda, osl⟩ := o
        obtain ⟨z1, z2⟩ := hz
        dsimp only at z1 z2 hv
        subst z1 z2 hv
        exact ⟨hget, rfl, rfl, hod⟩
      exact PySem.W.kia_one (PySem.W.kitx_exc cs.cl cs.xf.ga cs.xf.gg cs.xf.exC cs.cla cs.spc cs.tks cs.obj) (show Γ.K.In s.heap from by rw [← hK]; exact I.kIn) J ki (fun z => nomatch z) fun tk => ⟨.bl (f n), H, I.kept (t' := tk) fun _ _ z => z, rfl, q⟩
theorem i_is {Dc : Addr} {f : Str → Bool} (hz : Zc cls d o) (hf : ∃ v, o.data = .fields v) (hgi : Gl (SuX X a o pn) "isinstance") (hmi : X.mg "isinstance" = none) (hv : PE (SuX X a o pn) (.Name y p) (tVar i)) (hg : Gl (SuX X a o pn) x) (hm : X.mg x = some (.ref Dc))
    (hk : ∀ n C, kn n = true → Γ.mg n = some (.ref C) → PySem.W.kitOne Γ.K (.ref C) (.ref Dc) = some (f n)) (hK : X.K = Γ.K := by rfl) (hd : (x == ("__debug__" : Str)) = false := by decide)
    (he : starEach [.Name y p, .Name x p2] (SuX X a o pn).env = (false, eval (.Name y p) (SuX X a o pn).env) :: starEach [.Name x p2] (SuX X a o pn).env := by rfl) (he2 : starEach [.Name x p2] (SuX X a o pn).env = (false, eval (.Name x p2) (SuX X a o pn).env) :: starEach [] (SuX X a o pn).env := by rfl)
    (hpl : (backTo pos (starEach [.Name x p2] (SuX X a o pn).env)).any (·.1) = false := by rfl) :
    PE (SuX X a o pn) (.Call (.Name "isinstance" p3) [.Name y p, .Name x p2] [] pos) (tIt Γ kn i a cls d (iIs f)) :=
  PEimp (pe_callB (call_isX (f := f) hz hf hK) hgi hmi (by decide +kernel) (pa_cons hv (pa_cons (pe_glob (v := .ref Dc) hg hm rfl hd) pa_nil he2) he) (he := he) (hpl := hpl)) fun σ H Q ⟨n, t, φ, r, c, er, k⟩ => by
    cases er
    have c' := c
    obtain ⟨C, dd, v, e1, e2, k1, m1, xs, s1, h1, a1⟩ := c'
    refine ⟨.ref a, s1, n, t, φ, σ, c, ?_, rfl, k _ (.bl _)⟩
    rw [e1]
    exact hk n C k1 m1
end

/-! ### the whole try -/
section
variable {Γ : Gc} {φ φ' : List Addr} {ρ ρ' : Rho} {M M' : Mem} {σ σ' : L2.St} {H H' : Hp}
theorem In.drop {i : Nat} {w : Option V} (I : In Γ φ ρ M σ H) : In Γ φ (ρ.set i .un) M (σ.set i w) H := by
  have off : ∀ {j : Nat} {u : Sl}, u ≠ .un → (ρ.set i .un)[j]? = some u → j ≠ i ∧ ρ[j]? = some u := fun {j u} hu e => by
    by_cases hj : j = i
    · subst hj
      by_cases hl : j < ρ.length
      · rw [List.getElem?_set_self hl] at e
        exact absurd (Option.some.inj e).symm hu
      · rw [List.getElem?_eq_none (by rw [List.length_set]; omega)] at e; cases e
    · rw [List.getElem?_set_ne (Ne.symm hj)] at e
      exact ⟨hj, e⟩
  refine ⟨by rw [List.length_set, List.length_set]; exact I.len, fun j d e => ?_, fun j c e => ?_, fun j k b c q ej ek sj sk => ?_, I.rl, I.nd, I.mem, I.j⟩
  · obtain ⟨hj, e'⟩ := off (u := .val d) (fun z => nomatch z) e
    rw [List.getElem?_set_ne (Ne.symm hj)]
    exact I.val j d e'
  · obtain ⟨hj, e'⟩ := off (u := .own c) (fun z => nomatch z) e
    rw [List.getElem?_set_ne (Ne.symm hj)]
    exact I.own j c e'
  · obtain ⟨hj, e1⟩ := off (u := .own b) (fun z => nomatch z) ej
    obtain ⟨hk, e2⟩ := off (u := .own c) (fun z => nomatch z) ek
    rw [List.getElem?_set_ne (Ne.symm hj)] at sj
    rw [List.getElem?_set_ne (Ne.symm hk)] at sk
    exact I.sep j k b c q e1 e2 sj sk
theorem Mono.drop {i : Nat} {w : Option V} : Mono φ ρ σ H φ (ρ.set i .un) (σ.set i w) H := Mono.slots fun p ⟨j, c, ej, sj⟩ => by
  by_cases hj : j = i
  · subst hj
    by_cases hl : j < ρ.length
    · rw [List.getElem?_set_self hl] at ej; cases ej
    · rw [List.getElem?_eq_none (by rw [List.length_set]; omega)] at ej; cases ej
  · rw [List.getElem?_set_ne (Ne.symm hj)] at ej sj
    exact .inl ⟨j, c, ej, sj⟩
end
def tRx (Γ : Gc) (kn : Str → Bool) (i : Nat) (a : Addr) (cls : Value) (d : Option Addr) (g : It1) : TE := fun σ H Q => ∃ n t φ ρ M r, Caught Γ kn i a cls d n t φ σ H ∧ In Γ φ ρ M σ H ∧ g n t = some r ∧
  ∀ φ' H' v, In Γ φ' ρ M σ H' → Mono φ ρ σ H φ' ρ σ H' → At Γ φ' H' v r → Q v H'
def iTup (gs : ItS) : It1 := fun n t => (gs n t).bind fun rs => if rs.length ≤ sizeLine then some (.tup rs) else none
section
variable {X : Cx} {Γ : Gc} {kn : Str → Bool} {i : Nat} {a : Addr} {o : Obj} {cls : Value} {d : Option Addr} {pn : List (Addr × Obj)} {e : Expr} {es : List Expr} {g : It1} {gs : ItS} {pos : Pos}
theorem x_plain (h : PE (SuX X a o pn) e (tIt Γ kn i a cls d g)) : PE (SuX X a o pn) e (tRx Γ kn i a cls d g) := PEimp h fun σ H Q ⟨n, t, φ, ρ, M, r, c, I, e, k⟩ =>
  ⟨n, t, φ, r, c, e, fun w aw => k φ H w I (Mono.refl _ _ _ _) aw⟩
theorem x_tup {x1} (h : PA (SuX X a o pn) es (tIts Γ kn i a cls d gs)) : PE (SuX X a o pn) (.Tuple es x1 pos) (tRx Γ kn i a cls d (iTup gs)) := PEimp (pe_tup h) fun σ H Q ⟨n, t, φ, ρ, M, r, c, I, e, k⟩ => by
  unfold iTup at e
  obtain ⟨rs, e1, e2⟩ := Option.bind_eq_some_iff.mp e
  split at e2
  · rename_i z
    cases e2
    exact ⟨n, t, φ, rs, c, e1, fun ws aw => ⟨by rw [aw.length]; exact z, fun p hp => k φ _ _ (I.new hp) (Mono.new hp) (.tup (SqT.of upd_same) (by rw [aw.length]; exact z) (aw.mono (Pre.refl _) (pers_new hp)))⟩⟩
  · cases e2
end
/-- a clause: which classes it takes; what it returns -/
inductive CD where
  | nm (m : Str → Bool) (i : Nat) (g : It1)
  | ba (m : Str → Bool) (F : E D)
def catchG : List CD → Str → D → FS
  | [], n, t => fun ρ M => .exc n t ρ M
  | .nm m i g :: cs, n, t => if m n = true then (match g n t with
    | some r => fun ρ M => if i < ρ.length then .ret r (ρ.set i .un) M else .stuck
    | none => fun _ _ => .stuck) else catchG cs n t
  | .ba m F :: cs, n, t => if m n = true then sRet (fun ρ M => (F ρ M).noExc) else catchG cs n t
def sTry (kn : Str → Bool) (B : FS) (cs : List CD) : FS := fun ρ M => match B ρ M with
  | .exc n t ρ' M' => if kn n = true then catchG cs n t ρ' M' else .stuck
  | o => o
inductive CDs (X : Cx) (Γ : Gc) (kn : Str → Bool) : List ExceptHandler → List (Value × Wsh) → List CD → Prop
  | nil : CDs X Γ kn [] [] []
  | nm {x n : Str} {i : Nat} {c : Value} {m : Str → Bool} {g : It1} {e : Expr} {q q' p : Pos} {hs : List ExceptHandler} {l : List (Value × Wsh)} {cs : List CD} (nc : Names X x c) (ix : X.N[i]? = some n) (lo : X.env.kindOf n = some .local)
      (hm : ∀ n C, kn n = true → Γ.mg n = some (.ref C) → PySem.W.exmOne X.K (.ref C) c = some (m n))
      (su : ∀ (a : Addr) (o : Obj) (cls : Value) (d : Option Addr) (pn : List (Addr × Obj)), Zc cls d o → (∃ f, o.data = .fields f) → PE (SuX X a o pn) e (tRx Γ kn i a cls d g)) (r : CDs X Γ kn hs l cs) :
      CDs X Γ kn (.ExceptHandler (some (.Name x q)) (some n) [.Return (some e) p] q' :: hs) ((c, fun a cls d En σ H => tRx Γ kn i a cls d g (σ.set i (some (.ref a))) H En.rt) :: l) (.nm m i g :: cs)
  | ba {x : Str} {c : Value} {m : Str → Bool} {F : E D} {e : Expr} {q q' p : Pos} {hs : List ExceptHandler} {l : List (Value × Wsh)} {cs : List CD} (nc : Names X x c)
      (hm : ∀ n C, kn n = true → Γ.mg n = some (.ref C) → PySem.W.exmOne X.K (.ref C) c = some (m n))
      (su : ∀ (a : Addr) (o : Obj) (pn : List (Addr × Obj)), PE (SuX X a o pn) e (tE Γ W0 F)) (r : CDs X Γ kn hs l cs) :
      CDs X Γ kn (.ExceptHandler (some (.Name x q)) none [.Return (some e) p] q' :: hs) ((c, fun a cls d En σ H => tE Γ W0 F σ H En.rt) :: l) (.ba m F :: cs)
section
variable {X : Cx} {Γ : Gc} {kn : Str → Bool} {hs : List ExceptHandler} {l : List (Value × Wsh)} {cs : List CD}
theorem CDs.cls (nd : X.N.Nodup) (h : CDs X Γ kn hs l cs) : Cls X hs l := by
  induction h with
  | nil => exact .nil
  | nm nc ix lo hm su r ih => exact .named nc nd ix lo (fun a o cls d pn hz hf => pss_one (ps_ret (su a o cls d pn hz hf))) ih
  | ba nc hm su r ih => exact .bare (ts := fun _ _ _ En σ H => tE Γ W0 _ σ H En.rt) nc (fun a o cls d pn hz hf => pss_one (ps_ret (su a o pn))) ih
/-- the clauses take a caught error as catchG says -/
theorem CDs.take {φ φ' : List Addr} {ρ ρ' : Rho} {M' : Mem} {σ σ' : L2.St} {H H' : Hp} {n : Str} {t : D} {x c : Addr} {v : V} {En : Ends} {W : WX} (xs : ∀ n C, kn n = true → Γ.mg n = some (.ref C) → XcS Γ.K C) (I' : In Γ φ' ρ' M' σ' H') (m' : Mono φ ρ σ H φ' ρ' σ' H')
    (hc : Γ.mg n = some (.ref c)) (hx : H' x = some (.xd [(("thing" : Str), v)])) (ht : At Γ φ' H' v t) (hk : kn n = true) (cd : CDs X Γ kn hs l cs) : OutS Γ W φ ρ σ H En (catchG cs n t ρ' M') → clW X.K W En l (.ref c) (some x) σ' H' := by
  induction cd with
  | nil => intro h; exact h φ' H' σ' x v c I' m' hc hx ht
  | @nm xn nn i cc m g e q q' p hs l cs nc ix lo hm su r ih =>
    intro h
    refine ⟨m n, hm n c hk hc, ?_⟩
    unfold catchG at h
    split at h
    · rename_i hmn
      rw [if_pos hmn]
      intro a ha
      cases eg : g n t with
      | none => rw [eg] at h; exact h.elim
      | some r =>
        rw [eg] at h
        dsimp only at h
        split at h
        case isFalse => exact h.elim
        rename_i hlr
        have hlen : i < σ'.length := by rw [I'.len]; exact hlr
        exact ⟨n, t, φ', ρ'.set i .un, M', r, ⟨c, x, v, rfl, rfl, hk, hc, xs n c hk hc, List.getElem?_set_self hlen, hx, ht⟩, I'.drop, eg, fun φ2 H2 v2 I2 m2 a2 => h φ2 H2 _ v2 I2 ((m'.trans Mono.drop).trans m2) a2⟩
    · rename_i hmn
      rw [if_neg hmn]
      exact ih h
  | @ba xn cc m F e q q' p hs l cs nc hm su r ih =>
    intro h
    refine ⟨m n, hm n c hk hc, ?_⟩
    unfold catchG at h
    split at h
    · rename_i hmn
      rw [if_pos hmn]
      intro a ha
      unfold sRet at h
      refine ⟨φ', ρ', M', I', ?_⟩
      dsimp only at h
      cases eF : F ρ' M' with
      | ok d ρ2 M2 =>
        rw [eF] at h
        exact fun φ2 H2 b I2 m2 a2 => h φ2 H2 σ' b I2 (m'.trans m2) a2
      | exc _ _ _ _ => rw [eF] at h; exact h.elim
      | stuck => rw [eF] at h; exact h.elim
    · rename_i hmn
      rw [if_neg hmn]
      exact ih h
theorem s_try {body : List Stmt} {h₀ : ExceptHandler} {pos : Pos} {B : FS} {W : WX} (nd : X.N.Nodup) (sk : X.stack = X.env :: X.outer) (fr : X.env.frame = some X.env.locals) (tk : Takes X W)
    (xs : ∀ n C, kn n = true → Γ.mg n = some (.ref C) → XcS Γ.K C) (cd : CDs X Γ kn (h₀ :: hs) l cs)
    (bo : ∀ (W : WX) (pn : List (Addr × Obj)) (xe : Value → Shared → Prop), Takes (X.tr pn xe) W → PassesOwn (model X.prog X.w) X.A X.env xe → PSs (X.tr pn xe) body (tS Γ W B)) :
    PS X (.Try body (h₀ :: hs) [] [] pos) (tS Γ W (sTry kn B cs)) :=
  PSimp (ps_try_all sk fr tk bo (cd.cls nd)) fun En σ H ⟨φ, ρ, M, I, h⟩ => by
    refine ⟨φ, ρ, M, I, ?_⟩
    unfold sTry at h
    cases e : B ρ M with
    | exc n t ρ' M' =>
      rw [e] at h
      intro φ' H' σ' x v c I' m' hc hx ht
      dsimp only at h
      split at h
      · rename_i hk
        exact cd.take xs I' m' hc hx ht hk h
      · exact h.elim
    | nx ρ' M' => rw [e] at h; exact h
    | ret d ρ' M' => rw [e] at h; exact h
    | brk ρ' M' => rw [e] at h; exact h
    | cnt ρ' M' => rw [e] at h; exact h
    | stuck => rw [e] at h; exact h
end
end Dn
-- DnLam
/-! Dn: heard(lambda: body), heard a def that says try: return ('told', call()) with except clauses behind it. -/
namespace Dn
open PySem PySem.Spec PyProof.Rows L2 LamX

section
variable {Γ : Gc} {φ : List Addr} {ρ : Rho} {M : Mem} {σ : L2.St} {H H1 : Hp}
theorem pers_ext (e : ExtN H H1) : Pers H H1 := ⟨fun p xs h => e p _ h nt_tup, fun p o u h => e p _ h nt_frz⟩
theorem In.ext (I : In Γ φ ρ M σ H) (e : ExtN H H1) (j : Γ.J H1) : In Γ φ ρ M σ H1 := by
  have mv : ∀ {p : Addr} {o : MO}, MoAt Γ φ H p o → MoAt Γ φ H1 p o := fun m => m.move (Pre.refl _) (pers_ext e) fun u hu => e _ _ hu (Soft.nt (hu ▸ m.soft))
  refine ⟨I.len, fun i d h => ?_, fun i o h => ?_, I.sep, I.rl, I.nd, fun i o h => ?_, j⟩
  · obtain ⟨v, s, a⟩ := I.val i d h
    exact ⟨v, s, a.mono (Pre.refl _) (pers_ext e)⟩
  · obtain ⟨p, s, m, n⟩ := I.own i o h
    exact ⟨p, s, mv m, n⟩
  · obtain ⟨p, s, m⟩ := I.mem i o h
    exact ⟨p, s, mv m⟩
theorem Mono.ext (e : ExtN H H1) : Mono φ ρ σ H φ ρ σ H1 := ⟨Pre.refl _, fun _ h n => absurd h n, pers_ext e, fun p o h nt _ _ => e p o h nt, fun p o h nt => ⟨o, e p o h nt, nt⟩, fun _ h => .inl h⟩
end

section
variable {X : Cx} {pins : List (Addr × Obj)} {σ : L2.St} {H : Hp} {s : Shared}
/-- call() in the def that got the lambda; what leaves it is what that place takes -/
theorem lam_act {CXg : CXT} {Eg : XK} {Ng : List Str} {qg : Str} {sg : Scope} {g f c' : Addr} {cdg pm ctv : Value} {params : Arguments} {body : Expr} {scope : Scope} {k i : Nat} {a : Str} {pn : List (Addr × Obj)} {xe : Value → Shared → Prop} {W : WX} {tb : XK → TE} {p1 p2 : Pos}
    (I : Inv X pins σ H s) (L : LamS X.env.scope scope) (of : s.heap.get? f = some (PySem.W.kla_obj "<lambda>" (X.env.qual ++ "<lambda>") params body scope (cloFrom X.env.cells scope.names []) pm c' ctv)) (nf : H f = none) (frf : f ∉ frs X.stack)
    (bi : bindArgs (PySem.W.kla_fn "<lambda>" (X.env.qual ++ "<lambda>") params body scope (cloFrom X.env.cells scope.names []) pm (.ref c') ctv) ⟨[], []⟩ = pure [])
    (tk : Takes ((cxOf CXg X.prog X.w X.K X.mg X.base Ng qg sg g cdg X.A X.stack s H Eg).tr pn xe) W) (ro : Room (k + 1) (X.A.deeper (envOfC qg sg s.heap.objs.size g cdg)))
    (bd : ∀ (A : Around) (outer : List Env) (s : Shared) (H : Hp) (E : XK), A.guards = X.A.guards → Room k (A.deeper (lamEnv X scope s.heap.objs.size f c')) → PE (lamCx X A outer s H E scope f c') body (tb E))
    (ix : Ng[i]? = some a) (vi : Vis sg a) (d1 : (a == ("__debug__" : Str)) = false := by decide) (d2 : (a == ("__classdict__" : Str)) = false := by decide) :
    PE ((cxOf CXg X.prog X.w X.K X.mg X.base Ng qg sg g cdg X.A X.stack s H Eg).tr pn xe) (.Call (.Name a p1) [] [] p2)
      (fun τ G Q => τ[i]? = some (some (.ref f)) ∧ G c' = some (CodeO c' (X.env.qual ++ "<lambda>")) ∧ tb (WE W τ) σ G Q) := by
  refine ⟨fun pinsZ u τ G Q IZ ⟨at0, co, wi⟩ => ?_⟩
  refine wpAny_Call_Name_kw (thn ((pe_var (pos := p1) (i := i) ix vi d1 d2).run pinsZ u τ G (fun v H1 => v = .ref f ∧ H1 = G) IZ ⟨.ref f, at0, rfl, rfl⟩) fun z u1 ⟨v, G1, I1, rv, ev, eG⟩ => ?_)
  subst ev eG
  obtain rfl : z = Value.ref f := rv
  have of1 : u1.heap.get? f = some (PySem.W.kla_obj "<lambda>" (X.env.qual ++ "<lambda>") params body scope (cloFrom X.env.cells scope.names []) pm c' ctv) := I1.base.keep f _ of nf frf (fun z => nomatch (show f ∈ ([] : List Addr) from z))
  refine PySem.W.callWith_F0 ⟨_, _, _, _, of1⟩ ?_
  obtain ⟨⟨oc, vs, tt, hoc, hdc, hvc⟩, _, _⟩ := I1.hok c' _ co
  have un : Un (frs X.stack) [] H G1 s.heap u1.heap := I1.base
  have rc : codeAny (model X.prog X.w) (X.A.deeper (envOfC qg sg s.heap.objs.size g cdg)) (.call (.ref f) ⟨[], []⟩) (CR (L2.CX X.prog X.w) (envOfC qg sg s.heap.objs.size g cdg :: X.stack) X.prog X.w G1 u1 Q (WE W τ)) u1 := by
    refine PySem.W.kla_callFunE ro.depth of1 rfl L.co L.gen rfl ⟨c', oc, vs, tt, rfl, hoc, hdc, hvc⟩ ?_
    rw [bi]
    refine wpAny_pure (wpAny_newFunctionEnv (fun y hy => (L.own y hy).2) (fun y hy => absurd hy (by simp)) (fun h₁ ns1 sb1 => ⟨I1.nolimit.fresh _ sb1, ?_⟩) L.kind)
    have kp : ∀ b o, u1.heap.get? b = some o → h₁.get? b = some o := fun b o e => sb1.extBut b o (Nat.ne_of_lt (Heap.lt_size e)) (Heap.get?_push_of_some _ e)
    have J := lam_start2 (E := WE W τ) (f := f) (c' := c') (tk := u1.toks + ([] : List (Str × Value)).length) I L I1.env0 ro.hd un ns1 kp
    refine PySem.W.kla_codeExpr (wpAny_mono ((bd (X.A.deeper (envOfC qg sg s.heap.objs.size g cdg)) _ u1 G1 (WE W τ) rfl (ro.deeper _)).run [] _ _ G1 Q J wi) (fun v s' hq => ?_) fun e s' hq => hq)
    obtain ⟨w', G', J', rw', q⟩ := hq
    exact ⟨w', G', J'.os, J'.bare, J'.base, J'.hok, rw', q⟩
  refine wpAny_call (codeAny_mono rc fun r s' hq => ?_)
  rcases r with e | fl
  · exact passAt tk τ pinsZ G1 u1 e s' I1 hq
  · rcases fl with _ | _ | _ | v
    · exact False.elim hq
    · exact False.elim hq
    · exact False.elim hq
    · exact I1.after hq
end

/-! ### the def that hears -/
def heardG (kn : Str → Bool) (w : Str) (cs : List CD) (n : Nat) (G : Mem → R D) (M : Mem) : R D := match G M with
  | .ok d _ M' => .ok (.tup [.str w, d]) [] M'
  | .exc nm t _ M' => if kn nm = true then (match catchG cs nm t (List.replicate n .un) M' with
    | .ret r _ M2 => .ok r [] M2
    | _ => .stuck) else .stuck
  | .stuck => .stuck
def capR (ρ : Rho) : Rho := ρ.map fun s => match s with
  | .val d => .val d
  | _ => .un
def eHeard (kn : Str → Bool) (w : Str) (cs : List CD) (n : Nat) (B : E D) : E D := fun ρ M => match heardG kn w cs n (fun M' => B (capR ρ) M') M with
  | .ok d _ M' => .ok d ρ M'
  | _ => .stuck
section
variable {Γ : Gc} {φ : List Addr} {ρ : Rho} {M : Mem} {σ : L2.St} {H : Hp}
theorem capR_val {i : Nat} {d : D} (e : (capR ρ)[i]? = some (.val d)) : ρ[i]? = some (.val d) := by
  unfold capR at e
  rw [List.getElem?_map] at e
  obtain ⟨s, e1, e2⟩ := Option.map_eq_some_iff.mp e
  cases s <;> first | (cases e2; done) | (cases e2; exact e1)
theorem capR_own {i : Nat} {o : MO} (e : (capR ρ)[i]? = some (.own o)) : False := by
  unfold capR at e
  rw [List.getElem?_map] at e
  obtain ⟨s, e1, e2⟩ := Option.map_eq_some_iff.mp e
  cases s <;> cases e2
theorem In.cap (I : In Γ φ ρ M σ H) : In Γ φ (capR ρ) M σ H :=
  ⟨by rw [I.len]; unfold capR; rw [List.length_map], fun i d e => I.val i d (capR_val e), fun i o e => (capR_own e).elim, fun i j a b p e => (capR_own e).elim, I.rl, I.nd, I.mem, I.j⟩
theorem In.fresh (I : In Γ φ [] M [] H) (σ : L2.St) : In Γ φ (List.replicate σ.length .un) M σ H := by
  have no : ∀ {i : Nat} {s : Sl}, (List.replicate σ.length Sl.un)[i]? = some s → s = .un := fun {i s} e => by
    have := List.mem_of_getElem? e
    exact (List.mem_replicate.mp this).2
  exact ⟨by rw [List.length_replicate], fun i d e => (by have := no e; cases this), fun i o e => (by have := no e; cases this), fun i j a b p e => (by have := no e; cases this), I.rl, I.nd, I.mem, I.j⟩
end
section
variable {X : Cx} {Γ : Gc} {W : WX}
theorem e_heard {T : List (Addr × Str)} {x a w : Str} {g c P : Addr} {k j : Nat} {pg : Arguments} {sg : Scope} {dV kV doc pm cdv ct oc : Value} {an od : Option Addr} {osl : Array (Option Value)} {Ng : List Str} {kn : Str → Bool} {cs : List CD} {h₀ : ExceptHandler} {hds : List ExceptHandler} {l : List (Value × Wsh)} {x1}
    {params : Arguments} {body : Expr} {scope : Scope} {B : E D} {p lpos pos pc p1 p2 pt p3 p8 : Pos} (hg : Gl X x) (hm : X.mg x = some (.ref g)) (hk : PySem.W.keepIn X.K (.ref g) = true)
    (lk : X.K.lookup g = some ⟨oc, od, .func (PySem.W.fnOf x x pg [.Try [.Return (some (.Tuple [.Constant (.str w) j pc, .Call (.Name a p1) [] [] p2] x1 pt)) p3] (h₀ :: hds) [] [] p8] sg dV kV doc pm an cdv ct), osl⟩) (hcg : PySem.W.codeIn X.K cdv x = true)
    (hb : L2.Binds X.K (PySem.W.fnOf x x pg [.Try [.Return (some (.Tuple [.Constant (.str w) j pc, .Call (.Name a p1) [] [] p2] x1 pt)) p3] (h₀ :: hds) [] [] p8] sg dV kV doc pm an cdv ct) [a] []) (Sg : FnScope Ng [a] sg) (hNg : Ng[0]? = some a) (hva : Vis sg a)
    (xs : ∀ n C, kn n = true → Γ.mg n = some (.ref C) → XcS Γ.K C)
    (hcd : ∀ (A : Around) (outer : List Env) (s : Shared) (H : Hp), CDs (cxOf C8.CX0 X.prog X.w X.K X.mg X.base Ng x sg g cdv A outer s H C8.E0) Γ kn (h₀ :: hds) l cs)
    (TB : TabB X.base X.mg c P) (hcode : X.env.code = .ref c) (hmT : (P, X.env.qual ++ "<lambda>") ∈ T) (hu : ∀ p ∈ T, p.1 = P → p.2 = X.env.qual ++ "<lambda>") (hr : Room (k + 2) X.A) (L : LamS X.env.scope scope) (hdef : defaultsOf params X.env = ([], []))
    (hbind : ∀ (q : Str) (cl : List (Str × Addr)) (pm cv ctv : Value), bindArgs (PySem.W.kla_fn "<lambda>" q params body scope cl pm cv ctv) ⟨[], []⟩ = pure [])
    (hbody : ∀ (A : Around) (outer : List Env) (s : Shared) (H : Hp) (E : XK) (f c' : Addr), A.guards = X.A.guards → Room k (A.deeper (lamEnv X scope s.heap.objs.size f c')) → PE (lamCx X A outer s H E scope f c') body (tE Γ (fun cls d _ H => E cls d H) B))
    (hJ : ∀ H, Γ.J H → Tabs T H) (hJ' : ∀ H H1, Γ.J H → ExtN H H1 → Tabs T H1 → Γ.J H1) (hK : X.K = Γ.K := by rfl)
    (hdb : (x == ("__debug__" : Str)) = false := by decide) (hd : (a == ("__debug__" : Str)) = false := by decide) (hcd' : (a == ("__classdict__" : Str)) = false := by decide) :
    PE X (.Call (.Name x p) [.Lambda params body scope lpos] [] pos) (tE Γ W (eHeard kn w cs Ng.length B)) := by
  refine ⟨fun pins s σ H Q I ⟨φ, ρ, M, J, h⟩ => ?_⟩
  refine wpAny_Call_Name_kw (ld_glob I hg hm ?_ hdb)
  refine PySem.W.callWith_K (h₀ := X.base) I.ok.mod.kin hk ?_ (by rfl) (by rfl)
  refine Calls.spliced_cons (lam_make2 I TB hcode hmT hu (hJ _ J.j) hdef (L.has I.ok) fun f c' pm' ctv H1 s' I1 eN T1 hf hfn hfr hco => ?_)
  refine Calls.spliced_nil ⟨I1.kIn, ?_⟩
  have J1 := J.ext eN (hJ' _ _ J.j eN T1)
  have h1 := h.from (Mono.ext (φ := φ) (ρ := ρ) (σ := σ) eN)
  have rc : codeAny (model X.prog X.w) X.A (.call (.ref g) ⟨[.ref f], []⟩) (CR C8.CX0 X.stack X.prog X.w H1 s' Q C8.E0) s' := by
    refine run_ofS (N := Ng) (ps := [a]) (us := [.ref f]) (vs := [.ref f]) lk hcg Sg hr I1.env0 (hb s' [.ref f] I1.kIn rfl) (.cons rfl .nil) rfl fun hr' => ?_
    have cd := hcd X.A X.stack s' H1
    refine ⟨_, pss_one (ps_try_all (Wo := fun _ _ _ _ => False) (tb := fun W En τ G => tTup (tCons (tC (.str w)) (tCons (fun τ G Q => τ[0]? = some (some (.ref f)) ∧ G c' = some (CodeO c' (X.env.qual ++ "<lambda>")) ∧ tE Γ (fun cls d _ H => WE W τ cls d H) B σ G Q) tNil)) τ G En.rt) rfl rfl L2.takes0
      (fun W pn xe tk po => pss_one (ps_ret (pe_tup (pa_cons pe_str (pa_cons (lam_act (tb := fun E => tE Γ (fun cls d _ H => E cls d H) B) I1 L hf hfn hfr (hbind _ _ _ _ _) tk hr' (fun A outer s H E hg2 hr2 => hbody A outer s H E f c' hg2 hr2) hNg hva hd hcd') pa_nil))))) (cd.cls Sg.nd)), ?_⟩
    have lenS : (L2.start Ng [V.ref f]).length = Ng.length := by
      have : 0 < Ng.length := (List.getElem?_eq_some_iff.mp hNg).1
      unfold L2.start
      rw [List.length_append, List.length_map, List.length_replicate, List.length_singleton]
      omega
    have noC : ∀ p, ¬ Owned (capR ρ) σ p := fun p ⟨i, o, e, _⟩ => capR_own e
    refine ⟨rfl, hco, φ, capR ρ, M, J1.cap, ?_⟩
    unfold eHeard heardG at h1
    cases e : B (capR ρ) M with
    | stuck => simp only [e] at h1; exact h1
    | ok d ρ' M' =>
      simp only [e] at h1
      intro φ2 H2 v I2 m2 a2
      have mb := m2.bare noC
      refine ⟨by show 2 ≤ sizeLine; rw [sizeLine_eq]; omega, fun q hq => ?_⟩
      have I3 := J1.after I2.bare mb
      exact h1 φ2 _ _ (I3.new hq) ((Mono.after mb).trans (Mono.new hq)) (.tup (SqT.of upd_same) (by show 2 ≤ sizeLine; rw [sizeLine_eq]; omega) (Ats.mono (Pre.refl _) (pers_new hq) (.cons (.str w) (.cons a2 .nil))))
    | exc nm t ρ' M' =>
      simp only [e] at h1
      intro φ2 H2 x2 v c2 I2 m2 hc hx ht
      have mb := m2.bare noC
      by_cases hkn : kn nm = true
      case neg => rw [if_neg hkn] at h1; exact h1.elim
      rw [if_pos hkn] at h1
      have If := In.fresh I2.bare (L2.start Ng [V.ref f])
      rw [lenS] at If
      refine cd.take xs If (Mono.refl _ _ _ _) hc hx ht hkn ?_
      cases ec : catchG cs nm t (List.replicate Ng.length .un) M' with
      | ret r ρ3 M3 =>
        rw [ec] at h1
        intro φ4 H4 σ4 v4 I4 m4 a4
        have m5 : Mono φ2 [] [] H2 φ4 [] [] H4 := m4.bare fun p ⟨i, o, e, _⟩ => by
          have := (List.mem_replicate.mp (List.mem_of_getElem? e)).2
          cases this
        exact h1 φ4 H4 v4 (J1.after I4.bare (mb.trans m5)) (Mono.after (mb.trans m5)) a4
      | nx _ _ => rw [ec] at h1; exact h1.elim
      | brk _ _ => rw [ec] at h1; exact h1.elim
      | cnt _ _ => rw [ec] at h1; exact h1.elim
      | exc _ _ _ _ => rw [ec] at h1; exact h1.elim
      | stuck => rw [ec] at h1; exact h1.elim
  refine wpAny_call (codeAny_mono rc fun r s2 hq => ?_)
  rcases r with e | fl
  · exact (show False from hq).elim
  · rcases fl with _ | _ | _ | v
    · exact False.elim hq
    · exact False.elim hq
    · exact False.elim hq
    · exact I1.after hq
end
end Dn
-- DnComp2
/-! Dn: comprehensions with two clauses; comprehensions to a name. -/
namespace Dn
open PySem L2

def eComp2 (vs : List Nat) (S : E (List D)) (pt : Pt) (C : E Bool) (vs1 : List Nat) (S2 : E (List D)) (pt2 : Pt) (C2 : E Bool) (T : E D) : E (List D) := eBind S fun ds ρ M =>
  ((compGo vs pt C (eBind S2 fun es => compGo vs1 pt2 C2 T es) ds ρ M).noExc).bind fun xss ρ' M' => if xss.flatten.length ≤ sizeLine then .ok xss.flatten (backR ρ ρ' vs) M' else .stuck
theorem wipeR_eq {ρ τ : Rho} {vs : List Nat} (hl : τ.length = ρ.length) (h : ∀ j, j ∉ vs → τ[j]? = ρ[j]?) : wipeR τ vs = wipeR ρ vs := by
  apply List.ext_getElem?
  intro j
  by_cases hj : j ∈ vs
  · by_cases hlt : j < ρ.length
    · rw [wipeR_in hj hlt, wipeR_in hj (by rw [hl]; exact hlt)]
    · rw [List.getElem?_eq_none (by rw [wipeR_length]; omega), List.getElem?_eq_none (by rw [wipeR_length]; omega)]
  · rw [wipeR_out hj, wipeR_out hj, h j hj]
theorem in_it {J : It} {n : Nat} {G : Hp → Prop} {Y : Nat → Hp → V → Hp → Prop} (w : Walk J n G Y) {g : TG} {tt : TT} {te : TE} {vs : List Nat} {σ : L2.St} {H4 : Hp} {Dl : Addr} {Nx : Hp → Prop} (Pv : Nat → Hp → Prop) (h0 : Pv 0 H4) (hG : ∀ i H, i ≤ n → Pv i H → G H)
    (hs : ∀ i x H H', i < n → Pv i H → Y i H x H' → g x (wipe σ vs) H' fun σ2 H2 => wipe σ2 vs = wipe σ vs ∧ tt σ2 H2 fun b H3 =>
      if b = true then te σ2 H3 fun y H4 => ∃ acc, H4 Dl = some (.lst acc) ∧ acc.length < sizeLine ∧ Pv (i + 1) (upd H4 Dl (.lst (acc ++ [y]))) else Pv (i + 1) H3) (hd : ∀ H, Pv n H → Nx H) :
    ∃ V1 : Nat → Nat → Hp → Prop, (∃ m, V1 0 m H4) ∧ ∀ j k H, V1 j k H →
      (J.stop j H ∧ Nx H) ∨ (J.go j H ∧ ∃ N1 : Hp → Prop, (∀ H', N1 H' → ∃ k', k' < k ∧ V1 (j + 1) k' H') ∧ ∀ x H', J.yld j H x H' → g x (wipe σ vs) H' fun σ2 H2 => wipe σ2 vs = wipe σ vs ∧ tt σ2 H2 fun b H3 =>
        if b = true then te σ2 H3 fun y H4 => ∃ acc, H4 Dl = some (.lst acc) ∧ acc.length < sizeLine ∧ N1 (upd H4 Dl (.lst (acc ++ [y]))) else N1 H3) := by
  refine ⟨fun j k H => k = n - j ∧ j ≤ n ∧ Pv j H, ⟨n, rfl, Nat.zero_le _, h0⟩, fun j k H ⟨ek, hj, pv⟩ => ?_⟩
  subst ek
  rcases Nat.lt_or_eq_of_le hj with lt | rfl
  · exact .inr ⟨w.goes j H lt (hG j H hj pv), Pv (j + 1), fun G' p' => ⟨n - (j + 1), by omega, rfl, lt, p'⟩, fun x G' y => hs j x H G' lt pv (w.yields j H x G' lt (hG j H hj pv) y)⟩
  · exact .inl ⟨w.stops H (hG j H hj pv), hd H pv⟩
/-- where the turns stand; xs: what the list will be -/
def At2 (Γ : Gc) (vs : List Nat) (σ : L2.St) (φ1 : List Addr) (ρ1 : Rho) (τ1 : L2.St) (H1 : Hp) (Dl : Addr) (xs : List D) (H' : Hp) (φi : List Addr) (ρi : Rho) (Mi : Mem) (rest : List D) : Prop :=
  ∃ acc accD, H' Dl = some (.lst acc) ∧ Dl ∉ φi ∧ In Γ φi (wipeR ρi vs) Mi (wipe σ vs) H' ∧ Mono φ1 ρ1 τ1 H1 φi (wipeR ρi vs) (wipe σ vs) H' ∧ ¬ Owned (wipeR ρi vs) (wipe σ vs) Dl ∧ Ats Γ φi H' acc accD ∧ accD ++ rest = xs
/-- as Mono, but for a list that grows -/
structure MonoX (Dl : Addr) (φ : List Addr) (ρ : Rho) (σ : L2.St) (H : Hp) (φ' : List Addr) (ρ' : Rho) (σ' : L2.St) (H' : Hp) : Prop where
  pre : Pre φ φ'
  fresh : ∀ q, q ∈ φ' → q ∉ φ → Em (H q)
  pers : Pers H H'
  keep : ∀ p o, p ≠ Dl → H p = some o → NT o → p ∉ φ → ¬ Owned ρ σ p → H' p = some o
  live : ∀ p o, H p = some o → NT o → ∃ o', H' p = some o' ∧ NT o'
  shr : ∀ p, Owned ρ' σ' p → Owned ρ σ p ∨ Em (H p)
section
variable {Dl : Addr} {φ φ1 φ2 : List Addr} {ρ ρ1 ρ2 : Rho} {σ σ1 σ2 : L2.St} {H0 H H1 H2 : Hp}
theorem Mono.x (m : Mono φ ρ σ H φ1 ρ1 σ1 H1) : MonoX Dl φ ρ σ H φ1 ρ1 σ1 H1 := ⟨m.pre, m.fresh, m.pers, fun p o _ => m.keep p o, m.live, m.shr⟩
theorem MonoX.trans (a : MonoX Dl φ ρ σ H φ1 ρ1 σ1 H1) (b : MonoX Dl φ1 ρ1 σ1 H1 φ2 ρ2 σ2 H2) : MonoX Dl φ ρ σ H φ2 ρ2 σ2 H2 := by
  have back : ∀ p, Em (H1 p) → Em (H p) := fun p h o e nt => by
    obtain ⟨o', e', n'⟩ := a.live p o e nt
    exact h _ e' n'
  refine ⟨a.pre.trans b.pre, fun q h n => ?_, a.pers.trans b.pers, fun p o hD h nt n no => ?_, fun p o h nt => ?_, fun p h => ?_⟩
  · by_cases h1 : q ∈ φ1
    · exact a.fresh q h1 n
    · exact back q (b.fresh q h h1)
  · refine b.keep p o hD (a.keep p o hD h nt n no) nt (fun h1 => a.fresh p h1 n _ h nt) fun h1 => ?_
    rcases a.shr p h1 with q | q
    · exact no q
    · exact q _ h nt
  · obtain ⟨o1, h1, n1⟩ := a.live p o h nt
    exact b.live p o1 h1 n1
  · rcases b.shr p h with q | q
    · exact a.shr p q
    · exact .inr (back p q)
theorem MonoX.grow {vs : List V} (sf : Soft (H Dl)) : MonoX Dl φ ρ σ H φ ρ σ (upd H Dl (.lst vs)) := by
  refine ⟨Pre.refl _, fun _ h n => absurd h n, poke_pers sf, fun p o hD e _ _ _ => by rw [upd_ne hD]; exact e, fun p o e nt => ?_, fun p h => .inl h⟩
  by_cases hp : p = Dl
  · rw [hp, upd_same]; exact ⟨_, rfl, nt_lst⟩
  · rw [upd_ne hp]; exact ⟨o, e, nt⟩
theorem MonoX.sta (m : MonoX Dl φ ρ σ H φ1 ρ1 σ1 H1) (hD : ¬ Em (H0 Dl)) : Sta H0 φ ρ σ H H1 := ⟨m.pers, fun p o e nt n no em => m.keep p o (fun z => hD (z ▸ em)) e nt n no⟩
end
section
variable {X : Cx} {Γ : Gc} {W : WX} {tg it elt tg1 it1 : Expr} {ifs ifs1 : List Expr} {scope : Scope} {own : List (Str × Nat)} {S S2 : E (List D)} {pt pt2 : Pt} {C C2 : E Bool} {T : E D} {pos : Pos} {vs1 : List Nat}
theorem comp2_read {wi wi1 : TI} (hi : ∀ σ H R, tI Γ W S σ H R → wi σ H R) (hi1 : ∀ σ H R, tI Γ W0 S2 σ H R → wi1 σ H R) (hv : ∀ j, j ∈ pt.slots → j ∈ own.map (·.2)) (hw1 : ∀ j, j ∈ pt2.slots → j ∈ vs1) (hw2 : ∀ j, j ∈ vs1 → j ∈ own.map (·.2)) :
    ∀ (σ : L2.St) (H : Hp) (Q : VK), tF Γ W (eComp2 (own.map (·.2)) S pt C vs1 S2 pt2 C2 T) σ H Q → tLc2 wi (tP Γ pt) (tB' Γ W0 C) wi1 (tP Γ pt2) (tB' Γ W0 C2) (tE Γ W0 T) (own.map (·.2)) vs1 σ H Q :=
  fun σ H Q ⟨φ, ρ, M, I, h⟩ => hi _ _ _ <| tX.bind I h fun φ1 ρ1 M1 H1 J ds I1 m1 rw h1 => by
    intro Dl hD
    generalize hvs : own.map (·.2) = vs at *
    cases eg : (compGo vs pt C (eBind S2 fun es => compGo vs1 pt2 C2 T es) ds ρ1 M1).noExc with
    | exc _ _ _ _ => exfalso; cases u : compGo vs pt C (eBind S2 fun es => compGo vs1 pt2 C2 T es) ds ρ1 M1 <;> rw [u] at eg <;> cases eg
    | stuck => rw [eg] at h1; exact h1.elim
    | ok xss ρe Me =>
      rw [eg] at h1
      have eg' := noExc_ok eg
      dsimp only [R.bind] at h1
      split at h1
      case isFalse => exact h1.elim
      rename_i hlen
      obtain ⟨hz, G, Y, wk, g0, gs, yl⟩ := rw
      have hold : ∀ {φa φb : List Addr} {ρa ρb : Rho} {σa σb : L2.St} {Ha Hb : Hp} {acc : List V}, Mono φa ρa σa Ha φb ρb σb Hb → Ha Dl = some (.lst acc) → Dl ∉ φa → ¬ Owned ρa σa Dl → Hb Dl = some (.lst acc) ∧ Dl ∉ φb ∧ ¬ Owned ρb σb Dl := fun m hp nD no =>
        ⟨m.keep Dl _ hp nt_lst nD no, fun z => m.fresh Dl z nD _ hp nt_lst, fun z => (m.shr Dl z).elim no fun q => q _ hp nt_lst⟩
      have start : At2 Γ vs σ φ1 (wipeR ρ1 vs) (wipe σ vs) H1 Dl xss.flatten (upd H1 Dl (.lst [])) φ1 ρ1 M1 xss.flatten :=
        ⟨[], [], upd_same, I1.notIn hD, (I1.wipe _).new hD, Mono.new hD, (I1.wipe _).notOwned hD, .nil, rfl⟩
      refine ⟨fun i m H' => m = ds.length - i ∧ i ≤ ds.length ∧ ∃ φi ρi Mi rest, At2 Γ vs σ φ1 (wipeR ρ1 vs) (wipe σ vs) H1 Dl xss.flatten H' φi ρi Mi rest.flatten ∧ compGo vs pt C (eBind S2 fun es => compGo vs1 pt2 C2 T es) (ds.drop i) ρi Mi = .ok rest ρe Me,
        ⟨_, rfl, Nat.zero_le _, φ1, ρ1, M1, xss, start, eg'⟩, fun i m H' ⟨em, hi', φi, ρi, Mi, rest, ⟨acc, accD, hp, nD, Ii, mi, no, r, ea⟩, eq⟩ => ?_⟩
      subst em
      have gH := gs _ (Mono.wipe.trans mi).sta
      rcases Nat.lt_or_eq_of_le hi' with lt | rfl
      · refine .inr ⟨wk.goes i H' lt gH, fun G' => i + 1 ≤ ds.length ∧ ∃ φi ρi Mi rest, At2 Γ vs σ φ1 (wipeR ρ1 vs) (wipe σ vs) H1 Dl xss.flatten G' φi ρi Mi rest.flatten ∧ compGo vs pt C (eBind S2 fun es => compGo vs1 pt2 C2 T es) (ds.drop (i + 1)) ρi Mi = .ok rest ρe Me,
          fun G' q => ⟨ds.length - (i + 1), by omega, rfl, q⟩, fun x H2 y => ?_⟩
        have hdi : ds[i]? = some ds[i] := List.getElem?_eq_getElem lt
        rw [List.drop_eq_getElem_cons lt] at eq
        obtain ⟨ρt, eb, b, ρ2, M2, ec, hT, hF⟩ := compGo_step eq
        obtain ⟨lay, at1⟩ := yl i H' x H2 _ hdi (wk.yields i H' x H2 lt gH y) gH
        have hp2 : H2 Dl = some (.lst acc) := by
          rcases lay with rfl | ⟨q, ys, e, rfl⟩
          · exact hp
          · rw [upd_ne (ne_of_none hp e)]; exact hp
        refine ⟨φi, wipeR ρi _, Mi, _, ρt, lay.inn Ii, at1 φi mi.pre mi.pers, eb, fun σ2 I2 m2 k2 l2 => ?_⟩
        have hw : wipe σ2 vs = wipe σ vs := by
          rw [← wipe_wipe (σ := σ)]
          exact wipe_eq l2 fun j hj => k2 j fun z => hj (hv j z)
        have m12 := lay.mono.trans m2
        refine ⟨hw, φi, ρt, Mi, I2, ?_⟩
        rw [ec]
        intro φ3 H3 b' I3 m3 e3
        obtain rfl : b' = b := e3
        have m13 := m12.trans m3
        cases hbv : b' with
        | false =>
          rw [if_neg Bool.false_ne_true]
          obtain ⟨hp3, n3, no3⟩ := hold m13 hp nD no
          refine ⟨lt, φ3, ρ2, M2, rest, ⟨acc, accD, hp3, n3, ?_, ?_, fun z => no3 (owned_wipe (by rw [hw]; exact z)), r.mono m13.pre m13.pers, ea⟩, hF hbv⟩
          · have := I3.wipe vs
            rw [hw] at this
            exact this
          · have mw := Mono.wipe (φ := φ3) (ρ := ρ2) (σ := σ2) (H := H3) (vs := vs)
            rw [hw] at mw
            exact (mi.trans m13).trans mw
        | true =>
          rw [if_pos rfl]
          obtain ⟨zs, ρ3, M3, rest', et, er, ex⟩ := hT hbv
          refine hi1 _ _ _ ⟨φ3, ρ2, M2, I3, ?_⟩
          unfold eBind at et
          cases e2 : S2 ρ2 M2 with
          | exc _ _ _ _ => rw [e2] at et; cases et
          | stuck => rw [e2] at et; cases et
          | ok es ρ4 M4 =>
            rw [e2] at et
            simp only [R.bind] at et
            intro φ4 H4 J1 I4 m4 ⟨hz1, G1, Y1, wk1, g1, gs1, yl1⟩
            have m14 := m13.trans m4
            obtain ⟨hp4, n4, no4⟩ := hold m14 hp nD no
            have ml : Mono φ1 (wipeR ρ1 vs) (wipe σ vs) H1 φ4 (wipeR ρ4 vs1) (wipe σ2 vs1) H4 := (mi.trans m14).trans Mono.wipe
            have D3 : ¬ Em (H3 Dl) := fun z => z _ (hold m13 hp nD no).1 nt_lst
            have back1 : ∀ j, j ∉ vs1 → True := fun _ _ => True.intro
            refine in_it (G := G1) (Y := Y1) wk1 (fun j G' => ∃ φj ρj Mj now, At2 Γ vs1 σ2 φ1 (wipeR ρ1 vs) (wipe σ vs) H1 Dl xss.flatten G' φj ρj Mj (now ++ rest'.flatten) ∧ MonoX Dl φ4 ρ4 σ2 H4 φj (wipeR ρj vs1) (wipe σ2 vs1) G' ∧ compGo vs1 pt2 C2 T (es.drop j) ρj Mj = .ok now ρ3 M3)
              ⟨φ4, ρ4, M4, zs, ⟨acc, accD, hp4, n4, I4.wipe _, ml, fun z => no4 (owned_wipe z), r.mono m14.pre m14.pers, by rw [← ea, ex, List.flatten_cons]⟩, Mono.wipe.x, et⟩
              (fun j G' _ ⟨φj, ρj, Mj, now, _, mx, _⟩ => gs1 _ (mx.sta D3))
              (fun j x G' G2 hj' ⟨φj, ρj, Mj, now, ⟨acc, accD, hp, nD, Ij, mj, no, r, ea⟩, mx, eq⟩ y => ?_) fun G' ⟨φj, ρj, Mj, now, ⟨acc, accD, hp, nD, Ij, mj, no, r, ea⟩, mx, eq⟩ => ?_
            · have hdj : es[j]? = some es[j] := List.getElem?_eq_getElem hj'
              rw [List.drop_eq_getElem_cons hj'] at eq
              obtain ⟨ρt, eb, b, ρ2, M2, ec, hT, hF⟩ := compGo_step eq
              obtain ⟨lay, at1⟩ := yl1 j G' x G2 _ hdj y (gs1 _ (mx.sta D3))
              refine ⟨φj, wipeR ρj _, Mj, _, ρt, lay.inn Ij, at1 φj mx.pre mx.pers, eb, fun σ3 I2 m2 k2 l2 => ?_⟩
              have hw3 : wipe σ3 vs1 = wipe σ2 vs1 := by
                rw [← wipe_wipe (σ := σ2)]
                exact wipe_eq l2 fun j hj => k2 j fun z => hj (hw1 j z)
              have m12 := lay.mono.trans m2
              refine ⟨hw3, φj, ρt, Mj, I2, ?_⟩
              rw [ec]
              intro φ5 H5 b'' I5 m5 e5
              obtain rfl : b'' = b := e5
              have m15 := m12.trans m5
              have fin : ∀ {φ6 : List Addr} {ρ6 : Rho} {M6 : Mem} {H6 : Hp}, In Γ φ6 ρ6 M6 σ3 H6 → Mono φj (wipeR ρj vs1) (wipe σ2 vs1) G' φ6 ρ6 σ3 H6 → Mono φj (wipeR ρj vs1) (wipe σ2 vs1) G' φ6 (wipeR ρ6 vs1) (wipe σ2 vs1) H6 ∧ In Γ φ6 (wipeR ρ6 vs1) M6 (wipe σ2 vs1) H6 := fun {φ6 ρ6 M6 H6} I6 m6 => by
                have mw := Mono.wipe (φ := φ6) (ρ := ρ6) (σ := σ3) (H := H6) (vs := vs1)
                have Iw := I6.wipe vs1
                rw [hw3] at mw Iw
                exact ⟨m6.trans mw, Iw⟩
              cases hbw : b'' with
              | false =>
                rw [if_neg Bool.false_ne_true]
                obtain ⟨hp5, n5, no5⟩ := hold m15 hp nD no
                obtain ⟨mf, If⟩ := fin I5 m15
                obtain ⟨_, _, no6⟩ := hold mf hp nD no
                exact ⟨φ5, ρ2, M2, now, ⟨acc, accD, hp5, n5, If, mj.trans mf, no6, r.mono m15.pre m15.pers, ea⟩, mx.trans mf.x, hF hbw⟩
              | true =>
                rw [if_pos rfl]
                obtain ⟨w, ρ5, M5, ys, et', er', ex'⟩ := hT hbw
                refine ⟨φ5, ρ2, M2, I5, ?_⟩
                rw [et']
                intro φ6 H6 y6 I6 m6 a6
                have m16 := m15.trans m6
                obtain ⟨hp6, n6, no6⟩ := hold m16 hp nD no
                obtain ⟨mf, If⟩ := fin I6 m16
                obtain ⟨_, _, no7⟩ := hold mf hp nD no
                have sf : Soft (H6 Dl) := .inl ⟨_, hp6⟩
                have hacc : acc.length < sizeLine := by
                  have e1 := congrArg List.length ea
                  have e2 := r.length
                  rw [ex'] at e1
                  simp only [List.length_append, List.length_cons] at e1
                  omega
                exact ⟨acc, hp6, hacc, φ6, ρ5, M5, ys, ⟨acc ++ [y6], accD ++ [w], upd_same, n6, If.poke sf n6 no7, (mj.trans mf).late (.none hD) nt_lst ⟨_, hp6⟩, no7, ((r.mono m16.pre m16.pers).append (.cons a6 .nil)).mono (Pre.refl _) (poke_pers sf),
                  by rw [List.append_assoc, ← ea, ex']; rfl⟩, (mx.trans mf.x).trans (MonoX.grow sf), er'⟩
            · rw [List.drop_length] at eq
              simp only [compGo, eOk] at eq
              cases eq
              have hl : ρ3.length = (wipeR ρ3 vs1).length := (wipeR_length _ _).symm
              have hww : wipe (wipe σ2 vs1) vs = wipe σ vs := by
                rw [← hw]
                exact wipe_eq (wipe_length _ _) fun j hj => wipe_not fun z => hj (hw2 j z)
              have hrr : wipeR (wipeR ρ3 vs1) vs = wipeR ρ3 vs := wipeR_eq (wipeR_length _ _) fun j hj => wipeR_out fun z => hj (hw2 j z)
              have Iw := Ij.wipe vs
              have mw := Mono.wipe (φ := φj) (ρ := wipeR ρ3 vs1) (σ := wipe σ2 vs1) (H := G') (vs := vs)
              rw [hww, hrr] at Iw mw
              exact ⟨lt, φj, ρ3, M3, rest', ⟨acc, accD, hp, nD, Iw, mj.trans mw, fun z => no (owned_wipe (by rw [hww, hrr]; exact z)), r, by simpa using ea⟩, er⟩
      · rw [List.drop_length] at eq
        simp only [compGo, eOk] at eq
        cases eq
        have hl2 : ρe.length = ρ1.length := by
          have := Ii.len
          rw [wipe_length, wipeR_length, I1.len] at this
          exact this.symm
        have U := In.unwipe I1 Ii mi
        have V := Mono.unwipe I1 Ii mi
        rw [backR_wipe hl2] at U V
        have hxs : accD = xss.flatten := by simpa using ea
        refine .inl ⟨wk.stops H' gH, h1 φi H' _ U V ⟨Dl, acc, rfl, .none hD, nD, fun ⟨j, c, ej, sj⟩ => ?_, hp, by rw [r.length, hxs]; exact hlen, by rw [← hxs]; exact r⟩⟩
        by_cases hj : j ∈ vs
        · rw [backR_in hl2 hj] at ej
          exact I1.notOwned hD ⟨j, c, ej, sj⟩
        · rw [backR_out hj] at ej
          exact no ⟨j, c, by rw [wipeR_out hj]; exact ej, by rw [wipe_not hj]; exact sj⟩
abbrev BlkG (X : Cx) (Γ : Gc) (scope : Scope) (tg : Expr) (pt : Pt) : Prop := ∀ (s : Shared) (H : Hp) (Ca : Addr) (cl : List (Str × Addr)) (fp : List Addr), PG (X.blk s H scope (compEnvC scope cl Ca X.env) fp) tg (tP Γ pt)
abbrev BlkT (X : Cx) (Γ : Gc) (scope : Scope) (ifs : List Expr) (C : E Bool) : Prop := ∀ (s : Shared) (H : Hp) (Ca : Addr) (cl : List (Str × Addr)) (fp : List Addr), PTs (X.blk s H scope (compEnvC scope cl Ca X.env) fp) ifs (tB' Γ W0 C)
abbrev BlkE (X : Cx) (Γ : Gc) (scope : Scope) (e : Expr) (T : E D) : Prop := ∀ (s : Shared) (H : Hp) (Ca : Addr) (cl : List (Str × Addr)) (fp : List Addr), PE (X.blk s H scope (compEnvC scope cl Ca X.env) fp) e (tE Γ W0 T)
abbrev BlkI (X : Cx) (Γ : Gc) (scope : Scope) (tg e : Expr) (S : E (List D)) : Prop := ∀ (s : Shared) (H : Hp) (Ca : Addr) (cl : List (Str × Addr)) (fp : List Addr), PI (X.blk s H scope (compEnvC scope cl Ca X.env) fp) tg e (tI Γ W0 S)
theorem f_comp2 (hc : X.calm = true) (hN : X.N.Nodup) (hi : PI X tg it (tI Γ W S)) (ok : BlkOk X.N X.env.scope scope own) (hg : BlkG X Γ scope tg pt) (ht : BlkT X Γ scope ifs C) (hi1 : BlkI X Γ scope tg1 it1 S2) (hg1 : BlkG X Γ scope tg1 pt2) (ht1 : BlkT X Γ scope ifs1 C2) (he : BlkE X Γ scope elt T)
    (hv : ∀ j, j ∈ pt.slots → j ∈ own.map (·.2)) (hw1 : ∀ j, j ∈ pt2.slots → j ∈ vs1) (hw2 : ∀ j, j ∈ vs1 → j ∈ own.map (·.2)) (hs : ∀ x, foldedSetIterable it X.env x = pure x := by intro _; rfl) (hs1 : ∀ env x, foldedSetIterable it1 env x = pure x := by intro _ _; rfl) :
    PE X (.ListComp elt [⟨tg, it, ifs, 0⟩, ⟨tg1, it1, ifs1, 0⟩] scope pos) (tF Γ W (eComp2 (own.map (·.2)) S pt C vs1 S2 pt2 C2 T)) :=
  PEimp (pe_lc2 hc hN hi ok hw2 hg ht hi1 hg1 ht1 he hs hs1) (comp2_read (fun _ _ _ q => q) (fun _ _ _ q => q) hv hw1 hw2)
end

/-! ### a new list made at once into a name -/
/-- the name's list is kept as it is from now on -/
theorem ps_lock {X : Cx} {Γ : Gc} {W : WX} {st : Stmt} {te : TE} {i : Nat} {L : E (List D)} (h : PS X st (tAsg te (gName i))) (i0 : ∀ σ H Q, tF Γ W L σ H Q → te σ H Q) : PS X st (tS Γ W (sSet (.nm i) (eMap .lst L))) := by
  refine ⟨fun pins s σ H Dn I ⟨φ, ρ, M, J, q⟩ => ?_⟩
  have h2 : tF Γ W L σ H (fun v H1 => ∃ p vs, v = .ref p ∧ H1 p = some (.lst vs) ∧ ∀ o, Dn.nx (σ.set i (some v)) (upd H1 p (.frz o (.lst vs)))) := by
    refine ⟨φ, ρ, M, J, ?_⟩
    unfold sSet eMap eBind at q
    cases e : L ρ M with
    | stuck => rw [e] at q; exact q
    | exc n t ρ' M' => rw [e] at q; exact fun φ' H' x v c I' m' => q φ' H' σ x v c I' m'
    | ok ds ρ' M' =>
      rw [e] at q
      intro φ' H' v I' m' ⟨p, vs, ev, n0, n1, no, hp, hz, r⟩
      subst ev
      refine ⟨p, vs, rfl, hp, fun o => ?_⟩
      have sf : Soft (H' p) := .inl ⟨_, hp⟩
      have ps : Pers H' (upd H' p (.frz o (.lst vs))) := poke_pers sf
      exact q φ' _ _ ((I'.freeze hp n1 no).setVal (.lst (.inl ⟨o, upd_same⟩) hz (r.mono (Pre.refl _) ps))) ((m'.late n0 nt_frz ⟨_, hp⟩).trans Mono.setVal)
  have h3 := h.run pins s σ H { Dn with nx := fun σ' H' => ∃ p vs, H' p = some (.lst vs) ∧ ∀ o, Dn.nx σ' (upd H' p (.frz o (.lst vs))) } I (i0 _ _ _ (by
    obtain ⟨φ, ρ, M, J, o⟩ := h2
    refine ⟨φ, ρ, M, J, ?_⟩
    cases e : L ρ M with
    | stuck => rw [e] at o; exact o
    | exc n t ρ' M' => rw [e] at o; exact o
    | ok ds ρ' M' =>
      rw [e] at o
      intro φ' H' v I' m' rf
      obtain ⟨p, vs, ev, hp, k⟩ := o φ' H' v I' m' rf
      exact ⟨p, vs, hp, k⟩))
  refine wpAny_mono h3 (fun f s1 sp => ?_) fun _ _ z => z
  cases f with
  | next =>
    obtain ⟨σ', H', I', p, vs, hp, k⟩ := sp
    obtain ⟨od, I2⟩ := I'.lock hp True.intro
    exact ⟨σ', _, I2, k od⟩
  | brk => exact sp
  | cont => exact sp
  | ret u => exact sp
section
variable {X : Cx} {Γ : Gc} {W : WX} {tg it elt tg1 it1 : Expr} {ifs ifs1 : List Expr} {scope : Scope} {own : List (Str × Nat)} {S S2 : E (List D)} {pt pt2 : Pt} {C C2 : E Bool} {T : E D} {pos py spos : Pos} {vs1 : List Nat} {i : Nat} {y : Str}
theorem s_frzLc (hc : X.calm = true) (hN : X.N.Nodup) (hy : X.N[i]? = some y) (hyl : X.env.scope.names.lookup y = some .local) (hk : X.env.scope.kind = .function) (hi : PI X tg it (tI Γ W S)) (ok : BlkOk X.N X.env.scope scope own) (hg : BlkG X Γ scope tg pt) (ht : BlkT X Γ scope ifs C) (he : BlkE X Γ scope elt T)
    (hv : ∀ j, j ∈ pt.slots → j ∈ own.map (·.2)) (hl : (py.line == pos.line) = true := by rfl) (ha : (scope.names.any fun (n, k) => n == y && (k == .local || k == .cell)) = false := by rfl) (hs : ∀ x, foldedSetIterable it X.env x = pure x := by intro _; rfl) :
    PS X (.Assign [.Name y py] (.ListComp elt [⟨tg, it, ifs, 0⟩] scope pos) spos) (tS Γ W (sSet (.nm i) (eMap .lst (eComp (own.map (·.2)) S pt C T)))) :=
  ps_lock (ps_setLc hc hN hy hyl (sw_true hk hyl hl ha) hi ok hg ht he hs) (comp_read (fun _ _ _ q => q) hv)
theorem s_ownLc (hc : X.calm = true) (hN : X.N.Nodup) (hy : X.N[i]? = some y) (hyl : X.env.scope.names.lookup y = some .local) (hk : X.env.scope.kind = .function) (hi : PI X tg it (tI Γ W S)) (ok : BlkOk X.N X.env.scope scope own) (hg : BlkG X Γ scope tg pt) (ht : BlkT X Γ scope ifs C) (he : BlkE X Γ scope elt T)
    (hv : ∀ j, j ∈ pt.slots → j ∈ own.map (·.2)) (hl : (py.line == pos.line) = true := by rfl) (ha : (scope.names.any fun (n, k) => n == y && (k == .local || k == .cell)) = false := by rfl) (hs : ∀ x, foldedSetIterable it X.env x = pure x := by intro _; rfl) :
    PS X (.Assign [.Name y py] (.ListComp elt [⟨tg, it, ifs, 0⟩] scope pos) spos) (tS Γ W (sOwn i (eComp (own.map (·.2)) S pt C T))) :=
  PSimp (ps_setLc hc hN hy hyl (sw_true hk hyl hl ha) hi ok hg ht he hs) fun Dn σ H q => own_read (comp_read (fun _ _ _ q => q) hv) q
theorem s_frzLc2 (hc : X.calm = true) (hN : X.N.Nodup) (hy : X.N[i]? = some y) (hyl : X.env.scope.names.lookup y = some .local) (hk : X.env.scope.kind = .function) (hi : PI X tg it (tI Γ W S)) (ok : BlkOk X.N X.env.scope scope own) (hg : BlkG X Γ scope tg pt) (ht : BlkT X Γ scope ifs C)
    (hi1 : BlkI X Γ scope tg1 it1 S2) (hg1 : BlkG X Γ scope tg1 pt2) (ht1 : BlkT X Γ scope ifs1 C2) (he : BlkE X Γ scope elt T) (hv : ∀ j, j ∈ pt.slots → j ∈ own.map (·.2)) (hw1 : ∀ j, j ∈ pt2.slots → j ∈ vs1) (hw2 : ∀ j, j ∈ vs1 → j ∈ own.map (·.2))
    (hl : (py.line == pos.line) = true := by rfl) (ha : (scope.names.any fun (n, k) => n == y && (k == .local || k == .cell)) = false := by rfl) (hs : ∀ x, foldedSetIterable it X.env x = pure x := by intro _; rfl) (hs1 : ∀ env x, foldedSetIterable it1 env x = pure x := by intro _ _; rfl) :
    PS X (.Assign [.Name y py] (.ListComp elt [⟨tg, it, ifs, 0⟩, ⟨tg1, it1, ifs1, 0⟩] scope pos) spos) (tS Γ W (sSet (.nm i) (eMap .lst (eComp2 (own.map (·.2)) S pt C vs1 S2 pt2 C2 T)))) :=
  ps_lock (ps_setLc2 hc hN hy hyl (sw_true hk hyl hl ha) hi ok hw2 hg ht hi1 hg1 ht1 he hs hs1) (comp2_read (fun _ _ _ q => q) (fun _ _ _ q => q) hv hw1 hw2)
theorem s_ownLc2 (hc : X.calm = true) (hN : X.N.Nodup) (hy : X.N[i]? = some y) (hyl : X.env.scope.names.lookup y = some .local) (hk : X.env.scope.kind = .function) (hi : PI X tg it (tI Γ W S)) (ok : BlkOk X.N X.env.scope scope own) (hg : BlkG X Γ scope tg pt) (ht : BlkT X Γ scope ifs C)
    (hi1 : BlkI X Γ scope tg1 it1 S2) (hg1 : BlkG X Γ scope tg1 pt2) (ht1 : BlkT X Γ scope ifs1 C2) (he : BlkE X Γ scope elt T) (hv : ∀ j, j ∈ pt.slots → j ∈ own.map (·.2)) (hw1 : ∀ j, j ∈ pt2.slots → j ∈ vs1) (hw2 : ∀ j, j ∈ vs1 → j ∈ own.map (·.2))
    (hl : (py.line == pos.line) = true := by rfl) (ha : (scope.names.any fun (n, k) => n == y && (k == .local || k == .cell)) = false := by rfl) (hs : ∀ x, foldedSetIterable it X.env x = pure x := by intro _; rfl) (hs1 : ∀ env x, foldedSetIterable it1 env x = pure x := by intro _ _; rfl) :
    PS X (.Assign [.Name y py] (.ListComp elt [⟨tg, it, ifs, 0⟩, ⟨tg1, it1, ifs1, 0⟩] scope pos) spos) (tS Γ W (sOwn i (eComp2 (own.map (·.2)) S pt C vs1 S2 pt2 C2 T))) :=
  PSimp (ps_setLc2 hc hN hy hyl (sw_true hk hyl hl ha) hi ok hw2 hg ht hi1 hg1 ht1 he hs hs1) fun Dn σ H q => own_read (comp2_read (fun _ _ _ q => q) (fun _ _ _ q => q) hv hw1 hw2) q
end
end Dn
-- DnAsg
/-! Dn: a, b = x, y (two, three names), new lists among them. -/
namespace Dn
open PySem L2

inductive Itm where
  | v (d : D)
  | n (ds : List D)
inductive Its (Γ : Gc) (H0 : Hp) (φ : List Addr) (ρ : Rho) (σ : L2.St) (H : Hp) : List V → List Itm → List Addr → Prop
  | nil : Its Γ H0 φ ρ σ H [] [] []
  | val {v : V} {d : D} {vs : List V} {is : List Itm} {ps : List Addr} (a : At Γ φ H v d) (r : Its Γ H0 φ ρ σ H vs is ps) : Its Γ H0 φ ρ σ H (v :: vs) (.v d :: is) ps
  | new {p : Addr} {xs : List V} {ds : List D} {vs : List V} {is : List Itm} {ps : List Addr} (e : Em (H0 p)) (n : p ∉ φ) (no : ¬ Owned ρ σ p) (hp : H p = some (.lst xs)) (z : xs.length ≤ sizeLine) (a : Ats Γ φ H xs ds) (np : p ∉ ps) (r : Its Γ H0 φ ρ σ H vs is ps) :
      Its Γ H0 φ ρ σ H (.ref p :: vs) (.n ds :: is) (p :: ps)
section
variable {Γ : Gc} {H0 H1 H H' : Hp} {φ φ' φ0 : List Addr} {ρ ρ' ρ0 : Rho} {σ σ' σ0 : L2.St} {M : Mem} {vs : List V} {is : List Itm} {ps : List Addr}
theorem Its.em (h : Its Γ H0 φ ρ σ H vs is ps) : ∀ q ∈ ps, Em (H0 q) := by
  induction h with
  | nil => intro q hq; cases hq
  | val a r ih => exact ih
  | new e n no hp z a np r ih =>
    intro q hq
    rcases List.mem_cons.mp hq with rfl | hq
    · exact e
    · exact ih q hq
theorem Its.up (f : ∀ p, Em (H1 p) → Em (H0 p)) (h : Its Γ H1 φ ρ σ H vs is ps) : Its Γ H0 φ ρ σ H vs is ps := by
  induction h with
  | nil => exact .nil
  | val a r ih => exact .val a ih
  | new e n no hp z a np r ih => exact .new (f _ e) n no hp z a np ih
theorem Its.at (h : Its Γ H0 φ ρ σ H vs is ps) : ∀ q ∈ ps, ¬ Owned ρ σ q ∧ ∃ xs, H q = some (.lst xs) := by
  induction h with
  | nil => intro q hq; cases hq
  | val a r ih => exact ih
  | new e n no hp z a np r ih =>
    intro q hq
    rcases List.mem_cons.mp hq with rfl | hq
    · exact ⟨no, _, hp⟩
    · exact ih q hq
theorem Its.slots (h : Its Γ H0 φ ρ σ H vs is ps) (f : ∀ q ∈ ps, ¬ Owned ρ' σ' q) : Its Γ H0 φ ρ' σ' H vs is ps := by
  induction h with
  | nil => exact .nil
  | val a r ih => exact .val a (ih f)
  | new e n no hp z a np r ih => exact .new e n (f _ List.mem_cons_self) hp z a np (ih fun q hq => f q (List.mem_cons_of_mem _ hq))
end
def RIs (Γ : Gc) : Rel (List V) (List Itm) := fun H φ' ρ' σ' H' vs is => ∃ ps, Its Γ H φ' ρ' σ' H' vs is ps
instance {Γ : Gc} : RelOk (RIs Γ) := ⟨fun f ⟨ps, h⟩ => ⟨ps, h.up f⟩⟩
abbrev tM (Γ : Gc) (W : WX) (F : E (List Itm)) : TA := tX Γ W (RIs Γ) F
def mNil : E (List Itm) := eOk []
def mVal (F : E D) (G : E (List Itm)) : E (List Itm) := eBind F fun d => eBind G fun is => eOk (.v d :: is)
def mNew (L : E (List D)) (G : E (List Itm)) : E (List Itm) := eBind L fun ds => eBind G fun is => eOk (.n ds :: is)
section
variable {X : Cx} {Γ : Gc} {W : WX} {e : Expr} {es : List Expr} {F : E D} {L : E (List D)} {G : E (List Itm)}
theorem m_nil : PA X [] (tM Γ W mNil) := PAimp pa_nil fun σ H Q ⟨φ, ρ, M, I, h⟩ => h.now I ⟨[], .nil⟩
theorem m_val (ha : PE X e (tE Γ W F)) (hr : PA X es (tM Γ W G)) (hs : starEach (e :: es) X.env = (false, eval e X.env) :: starEach es X.env := by rfl) : PA X (e :: es) (tM Γ W (mVal F G)) := by
  refine PAimp (pa_cons ha hr hs) fun σ H Q ⟨φ, ρ, M, I, h⟩ => tX.bind0 I h fun φ1 ρ1 M1 H1 v d I1 m1 a1 h1 => ?_
  refine ⟨φ1, ρ1, M1, I1, ?_⟩
  unfold eBind at h1
  cases e2 : G ρ1 M1 with
  | stuck => rw [e2] at h1; exact h1
  | exc nm t ρ2 M2 => rw [e2] at h1; exact fun φ' H' x v c I' m' => h1 φ' H' x v c I' (m1.trans m')
  | ok is ρ2 M2 =>
    rw [e2] at h1
    intro φ2 H2 vs I2 m2 ⟨ps, r⟩
    exact h1 φ2 H2 _ I2 (m1.trans m2) ⟨ps, .val (a1.mono m2.pre m2.pers) (r.up fun q => m1.back)⟩
theorem m_new (ha : PE X e (tF Γ W L)) (hr : PA X es (tM Γ W G)) (hs : starEach (e :: es) X.env = (false, eval e X.env) :: starEach es X.env := by rfl) : PA X (e :: es) (tM Γ W (mNew L G)) := by
  refine PAimp (pa_cons ha hr hs) fun σ H Q ⟨φ, ρ, M, I, h⟩ => tX.bind0 I h fun φ1 ρ1 M1 H1 v ds I1 m1 ⟨p, xs, ev, e0, n, no, hp, z, a⟩ h1 => ?_
  subst ev
  refine ⟨φ1, ρ1, M1, I1, ?_⟩
  unfold eBind at h1
  cases e2 : G ρ1 M1 with
  | stuck => rw [e2] at h1; exact h1
  | exc nm t ρ2 M2 => rw [e2] at h1; exact fun φ' H' x v c I' m' => h1 φ' H' x v c I' (m1.trans m')
  | ok is ρ2 M2 =>
    rw [e2] at h1
    intro φ2 H2 vs I2 m2 ⟨ps, r⟩
    have np : p ∉ ps := fun q => r.em p q _ hp nt_lst
    exact h1 φ2 H2 _ I2 (m1.trans m2) ⟨p :: ps, .new e0 (fun q => m2.fresh p q n _ hp nt_lst) (fun q => (m2.shr p q).elim no fun q => q _ hp nt_lst) (m2.keep p _ hp nt_lst n no) z (a.mono m2.pre m2.pers) np (r.up fun q => m1.back)⟩
end

def setIs : List Nat → List Itm → Rho → Option Rho
  | i :: js, .v d :: is, ρ => setIs js is (ρ.set i (.val d))
  | i :: js, .n ds :: is, ρ => if i < ρ.length then setIs js is (ρ.set i (.own (.lst ds))) else none
  | [], [], ρ => some ρ
  | _, _, _ => none
def setVs : List Nat → List V → L2.St → L2.St
  | i :: js, v :: vs, σ => setVs js vs (σ.set i (some v))
  | _, _, σ => σ
section
variable {Γ : Gc} {H0 H : Hp} {φ φ0 : List Addr} {ρ0 : Rho} {σ0 : L2.St} {M : Mem} {ps : List Addr}
theorem owned_setVal {ρ : Rho} {σ : L2.St} {i : Nat} {d : D} {v : V} {q : Addr} (h : Owned (ρ.set i (.val d)) (σ.set i (some v)) q) : Owned ρ σ q := by
  obtain ⟨j, c, ej, sj⟩ := h
  by_cases hj : i = j
  · subst hj
    by_cases hi : i < ρ.length
    · rw [List.getElem?_set_self hi] at ej; cases ej
    · rw [List.getElem?_eq_none (by rw [List.length_set]; omega)] at ej; cases ej
  · rw [List.getElem?_set_ne hj] at ej sj
    exact ⟨j, c, ej, sj⟩
theorem owned_setOwn {ρ : Rho} {σ : L2.St} {i : Nat} {o : MO} {p q : Addr} (hq : q ≠ p) (hl : σ.length = ρ.length) (h : Owned (ρ.set i (.own o)) (σ.set i (some (.ref p))) q) : Owned ρ σ q := by
  obtain ⟨j, c, ej, sj⟩ := h
  by_cases hj : i = j
  · subst hj
    by_cases hi : i < ρ.length
    · rw [List.getElem?_set_self (by rw [hl]; exact hi)] at sj
      cases sj
      exact absurd rfl hq
    · rw [List.getElem?_eq_none (by rw [List.length_set]; omega)] at ej; cases ej
  · rw [List.getElem?_set_ne hj] at ej sj
    exact ⟨j, c, ej, sj⟩
theorem Its.store : ∀ {js : List Nat} {vs : List V} {is : List Itm} {ps : List Addr} {ρ ρ' : Rho} {σ : L2.St}, Its Γ H0 φ ρ σ H vs is ps → In Γ φ ρ M σ H → Mono φ0 ρ0 σ0 H0 φ ρ σ H → setIs js is ρ = some ρ' → vs.length = js.length ∧ In Γ φ ρ' M (setVs js vs σ) H ∧ Mono φ0 ρ0 σ0 H0 φ ρ' (setVs js vs σ) H
  | [], _, _, _, _, _, _, .nil, I, m, e => by
    simp only [setIs] at e
    cases e
    exact ⟨rfl, I, m⟩
  | [], _, _, _, _, _, _, .val _ _, _, _, e => by simp [setIs] at e
  | [], _, _, _, _, _, _, .new _ _ _ _ _ _ _ _, _, _, e => by simp [setIs] at e
  | i :: js, _, _, _, _, _, _, .nil, _, _, e => by simp [setIs] at e
  | i :: js, _, _, _, _, _, _, .val a r, I, m, e => by
    simp only [setIs] at e
    obtain ⟨l, I2, m2⟩ := (r.slots fun q hq z => (r.at q hq).1 (owned_setVal z)).store (I.setVal a) (m.trans Mono.setVal) e
    exact ⟨by rw [List.length_cons, List.length_cons, l], I2, m2⟩
  | i :: js, _, _, _, _, _, _, .new (p := p) (ds := ds) e0 n no hp z a np r, I, m, e => by
    simp only [setIs] at e
    split at e
    · obtain ⟨l, I2, m2⟩ := (r.slots (ρ' := _) (σ' := _) fun q hq w => (r.at q hq).1 (owned_setOwn (p := p) (by rintro rfl; exact np hq) I.len w)).store (I.setOwn (i := i) (p := p) (o := .lst ds) n no ⟨_, hp, z, a⟩) (m.setOwn e0 I.len) e
      exact ⟨by rw [List.length_cons, List.length_cons, l], I2, m2⟩
    · cases e
end
def sPar (js : List Nat) (L : E (List Itm)) : FS := fun ρ M => (L ρ M).thn fun is ρ M => match setIs js is ρ with
  | some ρ' => .nx ρ' M
  | none => .stuck
section
variable {X : Cx} {Γ : Gc} {W : WX} {a b c : Expr} {L : E (List Itm)} {i j l : Nat} {x y z : Str} {px py pz pt pos : Pos} {kt k2 pt2}
theorem par_read {js : List Nat} {σ : L2.St} {H : Hp} {Dn : Ends} (h : tS Γ W (sPar js L) Dn σ H) : tM Γ W L σ H (fun vs H1 => vs.length = js.length ∧ Dn.nx (setVs js vs σ) H1) := by
  obtain ⟨φ, ρ, M, I, h⟩ := h
  refine tX.thn0 I h fun φ1 ρ1 M1 H1 vs is I1 m1 ⟨ps, r⟩ h1 => ?_
  cases e : setIs js is ρ1 with
  | none => rw [e] at h1; exact h1.elim
  | some ρ' =>
    rw [e] at h1
    obtain ⟨hl, I2, m2⟩ := r.store I1 m1 e
    exact ⟨hl, h1 φ1 H1 _ I2 m2⟩
theorem tM.imp {Q Q' : List V → Hp → Prop} {σ : L2.St} {H : Hp} (f : ∀ vs H, Q vs H → Q' vs H) (h : tM Γ W L σ H Q) : tM Γ W L σ H Q' := by
  obtain ⟨φ, ρ, M, I, h⟩ := h
  refine ⟨φ, ρ, M, I, ?_⟩
  cases e : L ρ M with
  | ok is ρ' M' => rw [e] at h; exact fun φ' H' vs I' m' r => f _ _ (h φ' H' vs I' m' r)
  | exc n t ρ' M' => rw [e] at h; exact h
  | stuck => rw [e] at h; exact h
theorem s_par2 (hc : X.calm = true) (hN : X.N.Nodup) (hi : X.N[i]? = some x) (hj : X.N[j]? = some y) (hx : X.env.scope.names.lookup x = some .local) (hy : X.env.scope.names.lookup y = some .local) (ha : PA X [a, b] (tM Γ W L)) (hij : i ≠ j := by decide)
    (hw : swappedStores [.Tuple [.Name x px, .Name y py] kt pt] (.Tuple [a, b] k2 pt2) X.env = pure (some [x, y]) := by rfl) (hs : swapsWithSole [.Tuple [.Name x px, .Name y py] kt pt] (.Tuple [a, b] k2 pt2) pos.line X.env = pure false := by rfl) :
    PS X (.Assign [.Tuple [.Name x px, .Name y py] kt pt] (.Tuple [a, b] k2 pt2) pos) (tS Γ W (sPar [i, j] L)) := PSimp (ps_par hc hN hi hj hij hx hy ha hw hs) fun Dn σ H h => tM.imp (fun vs H1 ⟨hl, q⟩ => by
    match vs, hl, q with
    | [v, w], _, q => exact ⟨v, w, rfl, q⟩) (par_read h)
theorem s_par3 (hc : X.calm = true) (hN : X.N.Nodup) (hi : X.N[i]? = some x) (hj : X.N[j]? = some y) (hl : X.N[l]? = some z) (hx : X.env.scope.names.lookup x = some .local) (hy : X.env.scope.names.lookup y = some .local) (hz : X.env.scope.names.lookup z = some .local) (ha : PA X [a, b, c] (tM Γ W L)) (hij : i ≠ j := by decide) (hil : i ≠ l := by decide) (hjl : j ≠ l := by decide)
    (hw : swappedStores [.Tuple [.Name x px, .Name y py, .Name z pz] kt pt] (.Tuple [a, b, c] k2 pt2) X.env = pure (some [x, y, z]) := by rfl) (hs : swapsWithSole [.Tuple [.Name x px, .Name y py, .Name z pz] kt pt] (.Tuple [a, b, c] k2 pt2) pos.line X.env = pure false := by rfl) :
    PS X (.Assign [.Tuple [.Name x px, .Name y py, .Name z pz] kt pt] (.Tuple [a, b, c] k2 pt2) pos) (tS Γ W (sPar [i, j, l] L)) := PSimp (ps_par3 hc hN hi hj hl hij hil hjl hx hy hz ha hw hs) fun Dn σ H h => tM.imp (fun vs H1 ⟨hl, q⟩ => by
    match vs, hl, q with
    | [u, v, w], _, q => exact ⟨u, v, w, rfl, q⟩) (par_read h)
end
end Dn
-- DnSrc
/-! Dn: what for-loops and comprehensions walk: enumerate over lists and tuples, zip. -/
namespace PySem
open Sem (wp)
open AutoSeq1 (wpAny_loadPart')
theorem dn_enum_new (l : Addr) (items : Array Value) : Meets (Builtin.«enumerate.__new__» ⟨[.type "enumerate", .ref l], []⟩) (fun _ R s => s.heap.IsTuple l items ∧
      R (.ok (.ret (.ref (s.heap.push { cls := .type "tuple_iterator", data := .fields #[.ref l, .int 0 0] }).objs.size)))
        { s with heap := (s.heap.push { cls := .type "tuple_iterator", data := .fields #[.ref l, .int 0 0] }).push { cls := .type "enumerate", data := .fields #[.none, .bool false, .ref s.heap.objs.size, rawInt 0, .none, .none] } }) :=
  .of_wp fun prog w A R s ⟨hL, h⟩ => by
    obtain ⟨hp, g, d, tk, os⟩ := s
    obtain ⟨ob, hl, hr⟩ := id hL
    have hsub := sub_enumerate
    wp_walk using wpAny_loadPart' hl
    refine wpAny_stack_any fun st => wpAny_pure ?_
    split
    · rename_i c _ _ _ _ _
      cases (c == Value.type "enumerate") <;> (wp_walk using wpAny_loadPart' hl, wpAny_pyIter_tuple hL; exact ⟨_, rfl, h⟩)
    · wp_walk using wpAny_loadPart' hl, wpAny_pyIter_tuple hL
      exact ⟨_, rfl, h⟩
theorem dn_enum_call {prog : Program} {w : World} {A : Around} {E : Value → Shared → Prop} {s : Shared} {l : Addr} {items : Array Value} {Q : Value → Shared → Prop} (hL : s.heap.IsTuple l items)
    (k : ∀ h', IsEnum h' (s.heap.objs.size + 1) s.heap.objs.size 0 .none → h'.IsTupleIter s.heap.objs.size l 0 → (∀ b o, s.heap.get? b = some o → h'.get? b = some o) → Q (.ref (s.heap.objs.size + 1)) { s with heap := h' }) :
    wpAny (model prog w) A (call (.type "enumerate") [.ref l]) Q E s := by
  refine callType_new F.called_enumerate (by decide) (F.typeCall_enumerate_1 _) (F.newCall_enumerate_1 _) (fun obj => F.args_object_init_2 obj _) F.entry_enumerate_new (dn_enum_new l items) ⟨hL, ?_⟩
  have sz : (s.heap.push { cls := .type "tuple_iterator", data := .fields #[.ref l, .int 0 0] }).objs.size = s.heap.objs.size + 1 := Heap.size_push ..
  rw [sz]
  have he : IsEnum ((s.heap.push { cls := .type "tuple_iterator", data := .fields #[.ref l, .int 0 0] }).push { cls := .type "enumerate", data := .fields #[.none, .bool false, .ref s.heap.objs.size, rawInt 0, .none, .none] }) (s.heap.objs.size + 1) s.heap.objs.size 0 .none := by
    have z := Heap.get?_push_size (s.heap.push { cls := .type "tuple_iterator", data := .fields #[.ref l, .int 0 0] }) (o := { cls := .type "enumerate", data := .fields #[.none, .bool false, .ref s.heap.objs.size, rawInt 0, .none, .none] }) rfl
    rw [sz] at z; exact z
  exact ⟨⟨_, he, rfl⟩, k _ he ⟨_, Heap.get?_push_of_some _ (Heap.get?_push_size _ rfl), rfl, rfl⟩ fun b o x => Heap.get?_push_of_some _ (Heap.get?_push_of_some _ x)⟩
end PySem
namespace Dn
open PySem PySem.Spec PyProof.Rows L2 RZ
/-- enumerate over the tuple at a -/
def IteT (K : PySem.W.Frag) (a : Addr) : It :=
  ⟨fun i H => ∃ (xs : List V) (x : V), SqT K H a xs ∧ xs[i]? = some x, fun i H v H' => ∃ T x, v = .ref T ∧ H T = none ∧ H' = upd H T (.tup [.int (i : Nat), x]) ∧ ∀ xs, SqT K H a xs → xs[i]? = some x, fun i H => ∃ xs : List V, SqT K H a xs ∧ xs.length = i⟩
theorem enum_apart {h : Heap} {a e it : Addr} {items : Array Value} {i : Int} {j : Nat} {old : Value} (p : h.IsTuple a items) (he : IsEnum h e it i old) (hi : h.IsTupleIter it a j) : a ≠ it ∧ e ≠ a := by
  obtain ⟨o, ho, hc, _⟩ := p
  obtain ⟨o2, h2, c2, _⟩ := hi
  refine ⟨fun z => ?_, fun z => ?_⟩
  · rw [z, h2] at ho
    cases ho
    rw [c2] at hc
    exact absurd hc (by decide)
  · have he' : h.get? e = some _ := he
    rw [z, ho] at he'
    have := Option.some.inj he'
    rw [this] at hc
    exact absurd (show Value.type "enumerate" = Value.type "tuple" from hc) (by decide)
theorem turn_enumT {P : Program} {w : World} {K : PySem.W.Frag} {elts : List Expr} {kk : Nat} {tpos : Pos} (a e it : Addr) :
    Turn P w K (.Tuple elts kk tpos) (IteT K a) [e, it] e (fun i h => (∃ old, IsEnum h e it ((i : Nat) : Int) old) ∧ h.IsTupleIter it a i ∧ e ≠ it) where
  mem := by simp
  obj := fun i h ⟨⟨old, he⟩, ⟨o, ho, hc, hd⟩, _⟩ b hb => by
    rcases (show b = e ∨ b = it by simpa using hb) with rfl | rfl
    · exact ⟨_, he, fun v q => nomatch q⟩
    · exact ⟨o, ho, fun v q => by rw [hd] at q; cases q⟩
  keep := fun i h h' ⟨⟨old, he⟩, hi, hne⟩ k => ⟨⟨old, k e (by simp) _ he⟩, hi.at fun o q => k it (by simp) o q, hne⟩
  item := by
    intro X hP hw hK hc i pins s σ H E I hf ⟨⟨old, he⟩, hit, hne⟩ ⟨xs, x, hq, hx⟩
    subst hP hw hK
    obtain ⟨its, rv, p, hz⟩ := I.tuple hq
    have p : s.heap.IsTuple a its.toArray := p
    obtain ⟨u, hu, ru⟩ := rv.get hx
    obtain ⟨n1, n2⟩ := enum_apart p he hit
    have hel : e < s.heap.objs.size := Heap.lt_size he
    have hil : it < s.heap.objs.size := by obtain ⟨_, q, _⟩ := hit; exact Heap.lt_size q
    have hiz : i < its.toArray.size := by simpa using (List.getElem?_eq_some_iff.mp hu).1
    refine wpAny_pyNext_enum_itemD (Draws.tuple (prog := X.prog) (w := X.w) (A := X.A.in1) (I.ok.hd hc) it a n1 its.toArray) he ⟨hit, p⟩ hiz hne (by simp [hne, n2]) fun y h' tk hy ho ⟨hit', _⟩ hT hsz hk => ?_
    have hyu : y = u := by
      have hu' : its.toArray[i]? = some u := by simpa using hu
      rw [hu'] at hy
      exact (Option.some.inj hy).symm
    subst hyu
    refine ⟨_, rfl, wpAny_letOwnedTupleGo_enum (s := { s with heap := h', toks := tk + 1 }) ho fun h'' he' sb => ?_⟩
    have hT2 : h''.get? s.heap.objs.size = some { cls := .type "tuple", data := .seq #[.int i tk, y] } := (sb.2 _ (Nat.ne_of_gt hel)).trans hT
    have I1 : Inv X pins σ (upd H s.heap.objs.size (.tup [.int (i : Nat), x])) { s with heap := h'', toks := tk + 1 } :=
      I.turnedNew (ch := [e, it]) (fun b ob hb q => (sb.2 b (fun z => hb (by simp [z]))).trans (hk b ob (fun z => hb (by simp [z])) (fun z => hb (by simp [z])) q)) hf (Nat.le_refl _)
        ⟨by show 2 ≤ sizeLine; decide, [.int i tk, y], .cons ⟨_, rfl⟩ (.cons ru .nil), ⟨_, hT2, rfl, _, rfl⟩⟩
    refine ⟨.ref s.heap.objs.size, _, I1, rfl, ⟨_, x, rfl, I.hok.fresh (Nat.le_refl _), rfl, fun ys hy => by rw [I.tuple_inj hy hq]; exact hx⟩, ⟨⟨y, ?_⟩, hit'.at fun o q => (sb.2 it (Ne.symm hne)).trans q, hne⟩, fun b hb => ?_⟩
    · rw [show ((i + 1 : Nat) : Int) = (i : Int) + 1 by omega]; exact he'
    · have hb' : b < s.heap.objs.size := by
        rcases (show b = e ∨ b = it by simpa using hb) with rfl | rfl
        · exact hel
        · exact hil
      rw [upd_ne (Nat.ne_of_lt hb')]
      exact (hf b hb).1
  done := by
    intro X hP hw hK hc i pins s σ H E I hf ⟨⟨old, he⟩, hit, hne⟩ ⟨xs, hq, hx⟩
    subst hP hw hK
    obtain ⟨its, rv, p, hz⟩ := I.tuple hq
    have p : s.heap.IsTuple a its.toArray := p
    obtain ⟨n1, n2⟩ := enum_apart p he hit
    have hl : its.toArray.size = i := by rw [← hx]; simpa using rv.length.symm
    have st : s.heap.IsTupleIter it a its.toArray.size ∧ s.heap.IsTuple a its.toArray := by rw [hl]; exact ⟨hit, p⟩
    obtain ⟨f0, f1, f2, f3, f4, f5⟩ := hf it (by simp)
    exact wpAny_pyNext_enum_endD (Draws.tuple (prog := X.prog) (w := X.w) (A := X.A.in1) (I.ok.hd hc) it a n1 its.toArray) he st fun h' eb => ⟨rfl, I.turned (t' := s.toks) (fun b o hb q => eb b o hb q) f0 f1 f3 f4 f5⟩
  self := fun A i s Q E ⟨⟨_, he⟩, _⟩ h => wpAny_pyIter_enum he h
def iEnT (K : PySem.W.Frag) (ta : TA) : L2.TI := fun σ H R => ta σ H fun vs H1 => ∃ a xs, vs = [.ref a] ∧ SqT K H1 a xs ∧ R (IteT K a) H1
theorem pi_enumT {X : Cx} {e : Expr} {ta : TA} {p pos tpos : Pos} {elts : List Expr} {kk : Nat} (hg : Gl X "enumerate") (hm : X.mg "enumerate" = none) (ha : PA X [e] ta) (hs : starEach [e] X.env = [(false, eval e X.env)] := by rfl) :
    PI X (.Tuple elts kk tpos) (.Call (.Name "enumerate" p) [e] [] pos) (iEnT X.K ta) := by
  refine ⟨fun pins s σ H R I h => ?_⟩
  refine Call_ (ld_blt I hg hm boot_enumerate (PyProof.Rows.callWith_type1 (thn (ha.run pos pins s σ H _ I h) fun us s1 ⟨vs, H1, I1, r1, a, xs, ex, hq, q⟩ => ?_) hs rfl))
  subst ex
  cases r1 with
  | cons r rr =>
    cases rr
    cases r
    obtain ⟨its, rv, p', hz⟩ := I1.tuple hq
    refine PySem.dn_enum_call (show s1.heap.IsTuple a its.toArray from p') fun h' he hit hk => wpAny_pyIter_enum he ?_
    have I2 : Inv X pins σ H1 { s1 with heap := h' } := I1.kept (t' := s1.toks) hk
    refine ⟨s1.heap.objs.size + 1, [s1.heap.objs.size + 1, s1.heap.objs.size], _, _, H1, rfl, I2, turn_enumT a (s1.heap.objs.size + 1) s1.heap.objs.size, ⟨⟨.none, he⟩, hit, Nat.succ_ne_self _⟩, fun b hb => ?_, q⟩
    have hle : s1.heap.objs.size ≤ b := by
      rcases (show b = s1.heap.objs.size + 1 ∨ b = s1.heap.objs.size by simpa using hb) with rfl | rfl
      · exact Nat.le_add_right _ _
      · exact Nat.le_refl _
    exact I1.fpOk hle (I1.hok.fresh hle)
theorem walk_enumT {K : PySem.W.Frag} {a : Addr} {xs : List V} : Walk (IteT K a) xs.length (fun H => SqT K H a xs) (YPair (fun i => some (.int (i : Nat))) (fun i => xs[i]?)) :=
  ⟨fun i _ hi q => ⟨xs, xs[i], q, by simp [hi]⟩, fun _ q => ⟨xs, q, rfl⟩, fun i H v H' _ q ⟨T, x, h1, h2, h3, h4⟩ => ⟨T, .int (i : Nat), x, h1, h2, h3, rfl, h4 xs q⟩⟩
theorem walk_zipT {K : PySem.W.Frag} {a b : Addr} {xs ys : List V} {n : Nat} (hn : n = min xs.length ys.length) : Walk (ItzT K a b) n (fun H => SqT K H a xs ∧ SqT K H b ys) (YPair (fun i => xs[i]?) (fun i => ys[i]?)) := by
  subst hn
  refine ⟨fun i _ hi q => ?_, fun _ q => ⟨xs, ys, q.1, q.2, by omega⟩, fun i H v H' _ q ⟨T, x, y, h1, h2, h3, h4, h5⟩ => ⟨T, x, y, h1, h2, h3, h4 xs q.1, h5 ys q.2⟩⟩
  have h1 : i < xs.length := by omega
  have h2 : i < ys.length := by omega
  exact ⟨xs, ys, xs[i], ys[i], q.1, q.2, by simp [h1], by simp [h2]⟩

/-! ### as plain data -/
theorem rw_pair {Γ : Gc} {φ : List Addr} {ρ : Rho} {σ : L2.St} {H0 H : Hp} {J : It} {n : Nat} {G : Hp → Prop} {xs ys : Nat → Option V} {ds : List D} (w : Walk J n G (YPair xs ys)) (hn : ds.length = n) (hz : n ≤ sizeLine) (g0 : G H) (gs : ∀ H2, Sta H0 φ ρ σ H H2 → G H2)
    (at_ : ∀ i d, ds[i]? = some d → ∃ da db, d = .tup [da, db] ∧ (∀ v, xs i = some v → At Γ φ H v da) ∧ ∀ v, ys i = some v → At Γ φ H v db) : RW Γ H0 φ ρ σ H J ds := by
  subst hn
  refine ⟨hz, G, _, w, g0, gs, fun i H1 x H2 d ed ⟨T, a, b, ex, hT, e2, ea, eb⟩ gH => ?_⟩
  subst ex e2
  obtain ⟨da, db, rfl, h1, h2⟩ := at_ i d ed
  refine ⟨.inr ⟨T, _, hT, rfl⟩, fun φ1 pr ps => ?_⟩
  have p2 := ps.trans (pers_new (o := .tup [a, b]) hT)
  exact .tup (SqT.of upd_same) (by show 2 ≤ sizeLine; rw [sizeLine_eq]; omega) (.cons ((h1 a ea).mono pr p2) (.cons ((h2 b eb).mono pr p2) .nil))
def enumD (ds : List D) : List D := ds.zipIdx.map fun p => .tup [.int (p.2 : Nat), p.1]
def zipD (xs ys : List D) : List D := List.zipWith (fun a b => .tup [a, b]) xs ys
theorem enumD_len (ds : List D) : (enumD ds).length = ds.length := by simp [enumD]
theorem enumD_get {ds : List D} {i : Nat} {d : D} (h : (enumD ds)[i]? = some d) : ∃ x, ds[i]? = some x ∧ d = .tup [.int (i : Nat), x] := by
  unfold enumD at h
  rw [List.getElem?_map, List.getElem?_zipIdx] at h
  cases e : ds[i]? with
  | none => rw [e] at h; cases h
  | some x => rw [e] at h; cases h; exact ⟨x, rfl, by simp⟩
theorem zipD_len (xs ys : List D) : (zipD xs ys).length = min xs.length ys.length := by simp [zipD]
theorem zipD_get {xs ys : List D} {i : Nat} {d : D} (h : (zipD xs ys)[i]? = some d) : ∃ x y, xs[i]? = some x ∧ ys[i]? = some y ∧ d = .tup [x, y] := by
  unfold zipD at h
  rw [List.getElem?_zipWith] at h
  cases e1 : xs[i]? <;> cases e2 : ys[i]? <;> rw [e1, e2] at h <;> first | (cases h; done) | (cases h; exact ⟨_, _, rfl, rfl, rfl⟩)
def enumOf : List D → E (List D)
  | [.tup ds] => eOk (enumD ds)
  | [.lst ds] => eOk (enumD ds)
  | _ => eStuck
def zipOf : List D → E (List D)
  | [.tup xs, .tup ys] => eOk (zipD xs ys)
  | [.lst xs, .lst ys] => eOk (zipD xs ys)
  | _ => eStuck
section
variable {X : Cx} {Γ : Gc} {W : WX} {a b tg : Expr} {L : E (List D)} {elts : List Expr} {kk : Nat} {p pos tpos : Pos}
theorem Ats.at_get {φ : List Addr} {H : Hp} {vs : List V} {ds : List D} {i : Nat} {d : D} (r : Ats Γ φ H vs ds) (e : ds[i]? = some d) : ∀ v, vs[i]? = some v → At Γ φ H v d := fun v ev => by
  obtain ⟨w, e1, e2⟩ := r.get e
  rw [ev] at e1; cases e1
  exact e2
theorem i_enum (hg : Gl X "enumerate") (hm : X.mg "enumerate" = none) (ha : PA X [a] (tA Γ W L)) (hs : starEach [a] X.env = [(false, eval a X.env)] := by rfl) (hK : X.K = Γ.K := by rfl) :
    PI X (.Tuple elts kk tpos) (.Call (.Name "enumerate" p) [a] [] pos) (tI Γ W (eBind L enumOf)) :=
  PIimp (PIor (pi_enum hg hm ha hs) (pi_enumT hg hm ha hs)) fun σ H R ⟨φ, ρ, M, I, h⟩ => by
    rw [hK]
    cases e : L ρ M with
    | stuck => exfalso; unfold eBind at h; rw [e] at h; exact h
    | exc n t ρ' M' => unfold eBind at h; rw [e] at h; exact .inl ⟨φ, ρ, M, I, by rw [e]; exact h⟩
    | ok l ρ' M' =>
      unfold eBind at h
      rw [e] at h
      dsimp only [Dn.R.bind] at h
      unfold enumOf at h
      split at h
      · rename_i ds
        refine .inr ⟨φ, ρ, M, I, ?_⟩
        rw [e]
        intro φ' H' vs I' m' r
        cases r with
        | @cons v _ _ _ av rr =>
          cases rr
          cases av with
          | tup s z r => exact ⟨_, _, rfl, s, h φ' H' _ I' m' (rw_pair walk_enumT (by rw [enumD_len, r.length]) z s (fun H2 st => st.1.sqT s) fun i d ed => by
              obtain ⟨x, ex, rfl⟩ := enumD_get ed
              exact ⟨_, _, rfl, fun v ev => by cases ev; exact .int _, r.at_get ex⟩)⟩
      · rename_i ds
        refine .inl ⟨φ, ρ, M, I, ?_⟩
        rw [e]
        intro φ' H' vs I' m' r
        cases r with
        | @cons v _ _ _ av rr =>
          cases rr
          cases av with
          | lst s z r => exact ⟨_, _, rfl, s.seq, h φ' H' _ I' m' (rw_pair walk_enum (by rw [enumD_len, r.length]) z s.seq (fun H2 st => (st.1.fz s).seq) fun i d ed => by
              obtain ⟨x, ex, rfl⟩ := enumD_get ed
              exact ⟨_, _, rfl, fun v ev => by cases ev; exact .int _, r.at_get ex⟩)⟩
      · exact h.elim
theorem i_zip (hg : Gl X "zip") (hm : X.mg "zip" = none) (ha : PA X [a, b] (tA Γ W L)) (hs : starEach [a, b] X.env = (false, eval a X.env) :: starEach [b] X.env := by rfl) (hpl : (backTo pos (starEach [b] X.env)).any (·.1) = false := by rfl) (hK : X.K = Γ.K := by rfl) :
    PI X (.Tuple elts kk tpos) (.Call (.Name "zip" p) [a, b] [] pos) (tI Γ W (eBind L zipOf)) :=
  PIimp (pi_zipA hg hm ha hs hpl) fun σ H R ⟨φ, ρ, M, I, h⟩ => by
    rw [hK]
    refine tX.bind I h fun φ1 ρ1 M1 H1 vs l I1 m1 r h1 => ?_
    unfold zipOf at h1
    split at h1
    · rename_i xs ys
      cases r with
      | cons a1 r1 =>
        cases r1 with
        | cons a2 r2 =>
          cases r2
          cases a1 with
          | tup s1 z1 r1 =>
            cases a2 with
            | tup s2 z2 r2 => exact ⟨_, _, _, _, rfl, .inr ⟨s1, s2, h1.now I1 (rw_pair (walk_zipT rfl) (by rw [zipD_len, r1.length, r2.length]) (by omega) ⟨s1, s2⟩ (fun H2 st => ⟨st.1.sqT s1, st.1.sqT s2⟩) fun i d ed => by
                obtain ⟨x, y, ex, ey, rfl⟩ := zipD_get ed
                exact ⟨_, _, rfl, r1.at_get ex, r2.at_get ey⟩)⟩⟩
    · rename_i xs ys
      cases r with
      | cons a1 r1 =>
        cases r1 with
        | cons a2 r2 =>
          cases r2
          cases a1 with
          | lst s1 z1 r1 =>
            cases a2 with
            | lst s2 z2 r2 => exact ⟨_, _, _, _, rfl, .inl ⟨s1.seq, s2.seq, h1.now I1 (rw_pair (walk_zip rfl) (by rw [zipD_len, r1.length, r2.length]) (by omega) ⟨s1.seq, s2.seq⟩ (fun H2 st => ⟨(st.1.fz s1).seq, (st.1.fz s2).seq⟩) fun i d ed => by
                obtain ⟨x, y, ex, ey, rfl⟩ := zipD_get ed
                exact ⟨_, _, rfl, r1.at_get ex, r2.at_get ey⟩)⟩⟩
    · exact h1.elim
end
end Dn
-- DnZipL
/-! Dn: list(zip(a, b)). -/
namespace PySem
open Sem (wp)
section
variable {prog : Program} {w : World} {A : Around} {E : Value → Shared → Prop} {s : Shared} {z TI TO T i1 i2 : Addr} {f : Bool} {oT : Obj} {fp1 fp2 : List Addr} {n1 n2 i : Nat} {P1 P2 : Nat → Value → Prop} {St1 St2 : Nat → Heap → Prop}
/-- next of a zip whose last pair is still out -/
theorem dn_zip_held {Q : Value → Shared → Prop} (Z : ZipSep2 z TI TO i1 i2 fp1 fp2) (D1 : Draws prog w A i1 fp1 n1 P1 St1) (D2 : Draws prog w A i2 fp2 n2 P2 St2) (hz : IsZipHeld s.heap z TI TO T f) (hT : s.heap.get? T = some oT) (hTI : IsPair s.heap TI (.ref i1) (.ref i2))
    (st1 : St1 i s.heap) (st2 : St2 i s.heap) (l1 : i < n1) (l2 : i < n2)
    (k : ∀ x y h' tk, P1 i x → P2 i y → IsZipHeld h' z TI TO T true → St1 (i + 1) h' → St2 (i + 1) h' → IsPair h' s.heap.objs.size x y → h'.objs.size = s.heap.objs.size + 1 → (∀ c o, c ≠ z → c ≠ i1 → c ≠ i2 → s.heap.get? c = some o → h'.get? c = some o) → Q (.ref s.heap.objs.size) { s with heap := h', toks := tk }) :
    wpAny (model prog w) A (Builtin.«zip.__next__» ⟨[.ref z], []⟩) (fun fin s' => ∃ v, fin = .done (.ret v) ∧ Q v s') E s := by
  obtain ⟨hp, g, d, t0, os⟩ := s
  show wpAny _ _ (field (.ref z) 2 >>= fun _ => _) _ _ _
  refine wpAny_bind (wpAny_field hz rfl (x := .bool false) rfl ?_)
  show wpAny _ _ (field (.ref z) 3 >>= fun _ => _) _ _ _
  refine wpAny_bind (wpAny_field hz rfl (x := .ref TI) rfl (wpAny_bind (wpAny_seqItems hTI rfl ?_)))
  show wpAny _ _ (Builtin.SmallTypes.ownedTupleIsFree (.ref z) >>= fun _ => _) _ _ _
  refine wpAny_bind (wpAny_tupleHeld_zip hz hT fun g1 z1 s1 => ?_)
  simp only [Bool.false_eq_true, if_false]
  refine wpAny_bind ?_
  rw [← Array.forIn_toList]
  simp only [List.forIn_cons, List.forIn_nil]
  refine wpAny_bind (wpAny_bind (wpAny_holding ?_))
  show wpAny _ _ (Builtin.SmallTypes.nextOf (.ref i1) >>= fun _ => _) _ _ _
  refine wpAny_bind (D1.item i _ _ _ l1 (D1.over st1 s1 Z.zf1) fun x g2 t2 px a1 s2 => wpAny_pure (wpAny_pure ?_))
  refine wpAny_bind (wpAny_bind (wpAny_holding ?_))
  show wpAny _ _ (Builtin.SmallTypes.nextOf (.ref i2) >>= fun _ => _) _ _ _
  refine wpAny_bind (D2.item i _ _ _ l2 (D2.over (D2.over st2 s1 Z.zf2) s2 Z.sep1_2) fun y g3 t3 py a2 s3 => wpAny_pure (wpAny_pure (wpAny_pure ?_)))
  refine wpAny_bind (m := newTuple [x, y]) (wpAny_newTuple ?_)
  have sz : g3.objs.size = hp.objs.size := by rw [s3.1, s2.1, s1.1]
  refine wpAny_pure ⟨_, rfl, ?_⟩
  show Q (.ref g3.objs.size) _
  have p3 : IsPair (g3.push { cls := .type "tuple", data := .seq #[x, y] }) g3.objs.size x y := Heap.get?_push_size _ rfl
  have q3 : (g3.push { cls := .type "tuple", data := .seq #[x, y] }).objs.size = g3.objs.size + 1 := Heap.size_push ..
  rw [sz] at p3 q3 ⊢
  have up : ∀ b o, g3.get? b = some o → (g3.push { cls := .type "tuple", data := .seq #[x, y] }).get? b = some o := fun b o e => Heap.get?_push_of_some _ e
  exact k x y _ t3 px py (up _ _ (s3.extBut _ _ Z.zi2 (s2.extBut _ _ Z.zi1 z1))) (D1.frame _ _ _ (D1.over a1 s3 Z.sep2_1) fun b _ => up b) (D2.frame _ _ _ a2 fun b _ => up b) p3 q3
    fun c o c1 c2 c3 e => up c o (s3.extBut _ _ c3 (s2.extBut _ _ c2 (s1.extBut _ _ c1 e)))
theorem dn_zip_held_end {Q : Fin → Shared → Prop} (Z : ZipSep2 z TI TO i1 i2 fp1 fp2) (D1 : Draws prog w A i1 fp1 n1 P1 St1) (D2 : Draws prog w A i2 fp2 n2 P2 St2) (hz : IsZipHeld s.heap z TI TO T f) (hT : s.heap.get? T = some oT) (hTI : IsPair s.heap TI (.ref i1) (.ref i2))
    (st1 : St1 i s.heap) (st2 : St2 i s.heap) (l1 : i ≤ n1) (l2 : i ≤ n2) (le : i = n1 ∨ i = n2)
    (k : ∀ h' tk e, (∀ c o, c ≠ z → c ≠ i1 → c ≠ i2 → s.heap.get? c = some o → h'.get? c = some o) → (∃ o, h'.get? e = some o ∧ o.cls = .type "StopIteration") → E (.ref e) { s with heap := h', toks := tk }) :
    wpAny (model prog w) A (Builtin.«zip.__next__» ⟨[.ref z], []⟩) Q E s := by
  obtain ⟨hp, g, d, t0, os⟩ := s
  show wpAny _ _ (field (.ref z) 2 >>= fun _ => _) _ _ _
  refine wpAny_bind (wpAny_field hz rfl (x := .bool false) rfl ?_)
  show wpAny _ _ (field (.ref z) 3 >>= fun _ => _) _ _ _
  refine wpAny_bind (wpAny_field hz rfl (x := .ref TI) rfl (wpAny_bind (wpAny_seqItems hTI rfl ?_)))
  show wpAny _ _ (Builtin.SmallTypes.ownedTupleIsFree (.ref z) >>= fun _ => _) _ _ _
  refine wpAny_bind (wpAny_tupleHeld_zip hz hT fun g1 z1 s1 => ?_)
  simp only [Bool.false_eq_true, if_false]
  refine wpAny_bind ?_
  rw [← Array.forIn_toList]
  simp only [List.forIn_cons, List.forIn_nil]
  refine wpAny_bind (wpAny_bind (wpAny_holding ?_))
  show wpAny _ _ (Builtin.SmallTypes.nextOf (.ref i1) >>= fun _ => _) _ _ _
  have a1 := D1.over st1 s1 Z.zf1
  have b1 := D2.over st2 s1 Z.zf2
  rcases Nat.lt_or_eq_of_le l1 with lt | rfl
  · have e2 : i = n2 := le.elim (fun q => absurd q (Nat.ne_of_lt lt)) id
    refine wpAny_bind (D1.item i _ _ _ lt a1 fun x g2 t2 px a2 s2 => wpAny_pure (wpAny_pure ?_))
    refine wpAny_bind (wpAny_bind (wpAny_holding ?_))
    show wpAny _ _ (Builtin.SmallTypes.nextOf (.ref i2) >>= fun _ => _) _ _ _
    have b2 := D2.over b1 s2 Z.sep1_2
    rw [e2] at b2
    exact wpAny_bind (D2.done _ _ _ b2 fun g3 e s3 he => k g3 _ e (fun c o c1 c2 c3 x => s3 _ _ c3 (s2.extBut _ _ c2 (s1.extBut _ _ c1 x))) he)
  · exact wpAny_bind (D1.done _ _ _ a1 fun g3 e s3 he => k g3 _ e (fun c o c1 c2 c3 x => s3 _ _ c2 (s1.extBut _ _ c1 x)) he)
end
end PySem
namespace PySem
open Sem (wp)
def ZSt (z TI TO i1 i2 S : Addr) (h : Heap) : Prop := (IsZip h z TI TO .none ∧ ∃ a b, IsPair h TO a b) ∨ ∃ T f oT, IsZipHeld h z TI TO T f ∧ h.get? T = some oT ∧ T ≠ z ∧ T ≠ i1 ∧ T ≠ i2 ∧ T ≠ S ∧ T ≠ TO
section
variable {prog : Program} {w : World} {A : Around} {E : Value → Shared → Prop} {s : Shared} {z TI TO T i1 i2 S : Addr} {fp1 fp2 : List Addr} {n1 n2 i : Nat} {P1 P2 : Nat → Value → Prop} {St1 St2 : Nat → Heap → Prop}
theorem dn_zip_step {Q : Option Value → Shared → Prop} (Z : ZipSep2 z TI TO i1 i2 fp1 fp2) (D1 : Draws prog w A.in1 i1 fp1 n1 P1 St1) (D2 : Draws prog w A.in1 i2 fp2 n2 P2 St2) (hz : ZSt z TI TO i1 i2 S s.heap) (hTI : IsPair s.heap TI (.ref i1) (.ref i2)) (hS : S < s.heap.objs.size)
    (st1 : St1 i s.heap) (st2 : St2 i s.heap) (l1 : i < n1) (l2 : i < n2)
    (k : ∀ x y h' tk, P1 i x → P2 i y → ZSt z TI TO i1 i2 S h' → St1 (i + 1) h' → St2 (i + 1) h' → IsPair h' s.heap.objs.size x y → h'.objs.size = s.heap.objs.size + 1 → (∀ c o, c ≠ z → c ≠ TO → c ≠ i1 → c ≠ i2 → s.heap.get? c = some o → h'.get? c = some o) → Q (some (.ref s.heap.objs.size)) { s with heap := h', toks := tk }) :
    wpAny (model prog w) A (pyNext (.ref z)) Q E s := by
  have lv1 := D1.live _ _ st1
  have lv2 := D2.live _ _ st2
  rcases hz with ⟨hz, a, b, hTO⟩ | ⟨T, f, oT, hz, hT, t1, t2, t3, t4, t5⟩
  · refine wpAny_pyNext_zipD2_item Z D1 D2 hz hTI hTO st1 st2 l1 l2 fun x y h' tk px py hz' hTO' a1 a2 hp sz kp => k x y h' tk px py (.inr ⟨s.heap.objs.size, false, _, hz', hp, ?_, ?_, ?_, Nat.ne_of_gt hS, Nat.ne_of_gt (Heap.lt_size hTO)⟩) a1 a2 hp sz kp
    · exact Nat.ne_of_gt (Heap.lt_size hz)
    · obtain ⟨o, e⟩ := lv1; exact Nat.ne_of_gt (Heap.lt_size e)
    · obtain ⟨o, e⟩ := lv2; exact Nat.ne_of_gt (Heap.lt_size e)
  · have hTy : s.TypeIs (.ref z) "zip" := ⟨_, hz, rfl⟩
    unfold pyNext
    exact wpAny_bind (wpAny_attempt (wpAny_callSpecial?_slot (name := Str.ofString "__next__") hTy F.slot_zip_next (wpAny_call_entry F.slot_zip_next hTy F.entry_zip_next
      (dn_zip_held Z D1 D2 hz hT hTI st1 st2 l1 l2 fun x y h' tk px py hz' a1 a2 hp sz kp => wpAny_pure (k x y h' tk px py (.inr ⟨T, true, oT, hz', kp _ _ t1 t2 t3 hT, t1, t2, t3, t4, t5⟩) a1 a2 hp sz fun c o c1 _ c3 c4 => kp c o c1 c3 c4)) (F.args_zip_next_1 _))))
theorem dn_zip_stop {Q : Option Value → Shared → Prop} (Z : ZipSep2 z TI TO i1 i2 fp1 fp2) (D1 : Draws prog w A.in1 i1 fp1 n1 P1 St1) (D2 : Draws prog w A.in1 i2 fp2 n2 P2 St2) (hz : ZSt z TI TO i1 i2 S s.heap) (hTI : IsPair s.heap TI (.ref i1) (.ref i2))
    (st1 : St1 i s.heap) (st2 : St2 i s.heap) (l1 : i ≤ n1) (l2 : i ≤ n2) (le : i = n1 ∨ i = n2) (k : ∀ h' tk, (∀ c o, c ≠ z → c ≠ TO → c ≠ i1 → c ≠ i2 → s.heap.get? c = some o → h'.get? c = some o) → Q none { s with heap := h', toks := tk }) :
    wpAny (model prog w) A (pyNext (.ref z)) Q E s := by
  rcases hz with ⟨hz, a, b, hTO⟩ | ⟨T, f, oT, hz, hT, t1, t2, t3, t4, t5⟩
  · exact wpAny_pyNext_zipD2_end Z D1 D2 hz hTI hTO st1 st2 l1 l2 le k
  · have hTy : s.TypeIs (.ref z) "zip" := ⟨_, hz, rfl⟩
    unfold pyNext
    refine wpAny_bind (wpAny_attempt (wpAny_callSpecial?_slot (name := Str.ofString "__next__") hTy F.slot_zip_next (wpAny_call_entry F.slot_zip_next hTy F.entry_zip_next
      (dn_zip_held_end Z D1 D2 hz hT hTI st1 st2 l1 l2 le fun h' tk e kp ⟨o, ho, hc⟩ => ?_) (F.args_zip_next_1 _))))
    exact wpAny_bind (wpAny_isInstance (T := "StopIteration") (b := true) ⟨o, ho, hc⟩ isSubtype_stop (wpAny_pure (k h' tk fun c o c1 _ c3 c4 => kp c o c1 c3 c4)))
abbrev dnL (acc : Array Value) (c : Nat) : Obj := { cls := .type "list", dict := none, data := .seq acc c, slots := #[] }
/-- all pairs into the list at S: the pair of turn j lies at B + j -/
theorem dn_zip_drain {h0 : Heap} {g : Array GenState} {d : Drawn} {os : OsState} {B : Nat} {res : Value} {R : Result → Shared → Prop} (Z : ZipSep2 z TI TO i1 i2 fp1 fp2) (D1 : Draws prog w A.in1.in1 i1 fp1 n1 P1 St1) (D2 : Draws prog w A.in1.in1 i2 fp2 n2 P2 St2) (hn : min n1 n2 ≤ sizeLine)
    (nS : S ≠ z ∧ S ≠ TI ∧ S ≠ TO ∧ S ∉ fp1 ∧ S ∉ fp2) (hSB : S < B) (hlow : z < B ∧ TO < B ∧ i1 < B ∧ i2 < B)
    (fin : ∀ h' tk acc c, h'.get? S = some (dnL acc c) → acc.toList = (List.range (min n1 n2)).map (fun j => .ref (B + j)) → (∀ j, j < min n1 n2 → ∃ x y, P1 j x ∧ P2 j y ∧ IsPair h' (B + j) x y) → (∀ b o, b ≠ z → b ≠ TO → b ≠ i1 → b ≠ i2 → b ≠ S → h0.get? b = some o → h'.get? b = some o) → R (.ok (.ret res)) ⟨h', g, d, tk, os⟩) :
    ∀ (m i : Nat) (h : Heap) (t : Nat) (acc : Array Value) (c : Nat), i + m = min n1 n2 → ZSt z TI TO i1 i2 S h → IsPair h TI (.ref i1) (.ref i2) → St1 i h → St2 i h → h.get? S = some (dnL acc c) → h.objs.size = B + i → acc.toList = (List.range i).map (fun j => .ref (B + j)) →
      (∀ j, j < i → ∃ x y, P1 j x ∧ P2 j y ∧ IsPair h (B + j) x y) → (∀ b o, b ≠ z → b ≠ TO → b ≠ i1 → b ≠ i2 → b ≠ S → h0.get? b = some o → h.get? b = some o) → codeAny (model prog w) A (.builtin "list.extend.loop" ⟨[.ref S, .ref z, res], []⟩) R ⟨h, g, d, t, os⟩ := by
  have nSi1 : S ≠ i1 := fun e => nS.2.2.2.1 (e ▸ Z.mem1)
  have nSi2 : S ≠ i2 := fun e => nS.2.2.2.2 (e ▸ Z.mem2)
  have nz : ∀ (q : Addr) (j : Nat), q < B → (B + j : Nat) ≠ q := fun q j hq e => absurd hq (by rw [← e]; exact Nat.not_lt.mpr (Nat.le_add_right _ _))
  obtain ⟨w1, w2, w3, w4⟩ := hlow
  intro m
  induction m with
  | zero =>
    intro i h t acc c hi hz hTI st1 st2 hS sz ea hp kp
    have hi' : i = min n1 n2 := hi
    refine codeAny_builtin F.entry_extend_loop ?_
    rw [Around.under_plainId F.plain_extend_loop _]
    show wpAny _ A.in1 (pyNext (.ref z) >>= fun _ => _) _ _ _
    refine wpAny_bind (dn_zip_stop Z D1 D2 hz hTI st1 st2 (by omega) (by omega) (by omega) fun h' tk k2 => ?_)
    refine wpAny_pure (fin h' tk acc c (k2 S _ nS.1 nS.2.2.1 nSi1 nSi2 hS) (by rw [← hi']; exact ea) (fun j hj => ?_) fun b o b1 b2 b3 b4 b5 e => k2 b o b1 b2 b3 b4 (kp b o b1 b2 b3 b4 b5 e))
    obtain ⟨x, y, px, py, q⟩ := hp j (by omega)
    exact ⟨x, y, px, py, k2 _ _ (nz _ _ w1) (nz _ _ w2) (nz _ _ w3) (nz _ _ w4) q⟩
  | succ m ih =>
    intro i h t acc c hi hz hTI st1 st2 hS sz ea hp kp
    have asz : acc.size = i := by
      have := congrArg List.length ea
      simpa using this
    refine codeAny_builtin F.entry_extend_loop ?_
    rw [Around.under_plainId F.plain_extend_loop _]
    show wpAny _ A.in1 (pyNext (.ref z) >>= fun _ => _) _ _ _
    refine wpAny_bind (dn_zip_step Z D1 D2 hz hTI (Heap.lt_size hS) st1 st2 (by omega) (by omega) fun x y h' tk px py hz' a1 a2 hpr sz' k2 => ?_)
    have hS' : h'.get? S = some (dnL acc c) := k2 S _ nS.1 nS.2.2.1 nSi1 nSi2 hS
    have hB : (⟨h, g, d, t, os⟩ : Shared).heap.objs.size = B + i := sz
    rw [hB] at hpr sz' ⊢
    show wpAny _ A.in1 (updateSeq S (·.push (.ref (B + i))) >>= fun _ => _) _ _ _
    have other : ∀ b o, b ≠ S → h'.get? b = some o → (h'.update S (Obj.mapSeq (·.push (.ref (B + i))))).get? b = some o := fun b o hb e => (Heap.get?_update_other _ _ (Ne.symm hb)).trans e
    refine wpAny_bind (wpAny_updateSeq hS' rfl (wpAny_pure ⟨plainId_quiet F.plain_extend_loop _, ih (i + 1) _ tk (acc.push (.ref (B + i))) _ (by omega) ?_ (other _ _ nS.2.1.symm (k2 TI _ Z.TIz Z.TITO Z.TIi1 Z.TIi2 hTI))
      (D1.frame _ _ _ a1 fun b hb o e => other b o (fun q => nS.2.2.2.1 (q ▸ hb)) e) (D2.frame _ _ _ a2 fun b hb o e => other b o (fun q => nS.2.2.2.2 (q ▸ hb)) e) (Heap.get?_update_self _ hS' rfl) ?_ ?_ (fun j hj => ?_) fun b o b1 b2 b3 b4 b5 e => other b o b5 (k2 b o b1 b2 b3 b4 (kp b o b1 b2 b3 b4 b5 e))⟩)
      (by rw [asz]; omega) (by show (acc.push _).size ≤ sizeLine + 1; rw [Array.size_push, asz]; omega))
    · rcases hz' with ⟨q1, a, b, q2⟩ | ⟨T, f, oT, q1, q2, t1, t2, t3, t4, t5⟩
      · exact .inl ⟨other _ _ nS.1.symm q1, a, b, other _ _ nS.2.2.1.symm q2⟩
      · exact .inr ⟨T, f, oT, other _ _ nS.1.symm q1, other _ _ t4 q2, t1, t2, t3, t4, t5⟩
    · exact (Heap.SameBut.update (h := h') (a := S) (f := Obj.mapSeq (·.push (.ref (B + i))))).1.trans sz'
    · rw [Array.toList_push, ea, List.range_succ, List.map_append]; rfl
    · by_cases hj' : j < i
      · obtain ⟨x, y, px, py, q⟩ := hp j hj'
        exact ⟨x, y, px, py, other _ _ (nz _ _ hSB) (k2 _ _ (nz _ _ w1) (nz _ _ w2) (nz _ _ w3) (nz _ _ w4) q)⟩
      · obtain rfl : j = i := by omega
        exact ⟨x, y, px, py, other _ _ (nz _ _ hSB) hpr⟩
end
end PySem
namespace PySem
open Sem (wp)
theorem zip_no_len : typeLookup (.type "zip") "__len__" = pure none := am_miss_of_fast (by decide +kernel)
theorem zip_no_hint : typeLookup (.type "zip") "__length_hint__" = pure none := am_miss_of_fast (by decide +kernel)
section
variable {prog : Program} {w : World} {A : Around} {E : Value → Shared → Prop} {z TI TO i1 i2 : Addr} {fp1 fp2 : List Addr} {n1 n2 : Nat} {P1 P2 : Nat → Value → Prop} {St1 St2 : Nat → Heap → Prop}
theorem dn_list_zip {h : Heap} {g : Array GenState} {d : Drawn} {t : Nat} {os : OsState} {a b : Value} {Q : Value → Shared → Prop} (Z : ZipSep2 z TI TO i1 i2 fp1 fp2) (D1 : Draws prog w A.in1.in1.in1 i1 fp1 n1 P1 St1) (D2 : Draws prog w A.in1.in1.in1 i2 fp2 n2 P2 St2) (hn : min n1 n2 ≤ sizeLine)
    (hz : IsZip h z TI TO .none) (hTI : IsPair h TI (.ref i1) (.ref i2)) (hTO : IsPair h TO a b) (st1 : St1 0 h) (st2 : St2 0 h) (f1 : ∀ b ∈ fp1, b < h.objs.size) (f2 : ∀ b ∈ fp2, b < h.objs.size)
    (fin : ∀ h' tk acc c, h'.get? h.objs.size = some (dnL acc c) → acc.toList = (List.range (min n1 n2)).map (fun j => .ref (h.objs.size + 1 + j)) → (∀ j, j < min n1 n2 → ∃ x y, P1 j x ∧ P2 j y ∧ IsPair h' (h.objs.size + 1 + j) x y) →
      (∀ b o, b ≠ z → b ≠ TO → b ≠ i1 → b ≠ i2 → b ≠ h.objs.size → h.get? b = some o → h'.get? b = some o) → Q (.ref h.objs.size) ⟨h', g, d, tk, os⟩) :
    wpAny (model prog w) A (call (.type "list") [.ref z]) Q E ⟨h, g, d, t, os⟩ := by
  have zS : h.objs.size ≠ z := Nat.ne_of_gt (Heap.lt_size hz)
  refine callType_codes (Q₁ := fun obj s₁ => obj = .ref h.objs.size ∧ s₁ = ⟨h.push { cls := .type "list", data := .seq #[] }, g, d, t, os⟩) F.called_list (F.typeCall_list_1 _) F.entry_list_init (code_list_new _ ⟨rfl, rfl⟩) fun obj s₁ h₁ => ?_
  obtain ⟨rfl, rfl⟩ := h₁
  have q0 : (h.push { cls := .type "list", data := .seq #[] }).get? h.objs.size = some { cls := .type "list", data := .seq #[] } := Heap.get?_push_size _ rfl
  refine ⟨⟨_, q0, rfl⟩, F.args_list_init_2 _ _, ?_⟩
  show wpAny _ A.in1.in1 (do let old ← Builtin.List.listItems (.ref h.objs.size); Builtin.List.listUpdate (.ref h.objs.size) (fun _ => #[]); letGo old.toList.reverse; Builtin.List.listExtendWith (.ref h.objs.size) (.ref z) .none) _ _ _
  refine wpAny_bind ?_
  unfold Builtin.List.listItems
  refine wpAny_bind (wpAny_seqItems q0 rfl (wpAny_pure ?_))
  refine wpAny_bind (m := updateSeq h.objs.size (fun _ => #[])) (wpAny_updateSeq q0 rfl ?_)
  have q1 := Heap.get?_update_self (Obj.mapSeq (fun _ => (#[] : Array Value))) q0 rfl
  refine wpAny_bind (wpAny_letGo ?_)
  unfold Builtin.List.listExtendWith
  have up : ∀ (h2 : Heap) (f : Obj → Obj), (∀ b o, h.get? b = some o → h2.get? b = some o) → ∀ b o, h.get? b = some o → (h2.update h.objs.size f).get? b = some o := fun h2 f q b o e => (Heap.get?_update_other _ _ (Ne.symm (Nat.ne_of_lt (Heap.lt_size e)))).trans (q b o e)
  have k2 := up _ (Obj.mapSeq (fun _ => (#[] : Array Value))) (fun b o e => Heap.get?_push_of_some { cls := .type "list", data := .seq #[] } e)
  have ty : ∀ {h2 : Heap} {g2 : Array GenState} {d2 : Drawn} {t2 : Nat} {os2 : OsState}, (∀ b o, h.get? b = some o → h2.get? b = some o) → (⟨h2, g2, d2, t2, os2⟩ : Shared).TypeIs (.ref z) "zip" := fun q => ⟨_, q _ _ hz, rfl⟩
  refine wpAny_bind (wpAny_typeOf (ty k2) ?_)
  simp only [show Builtin.List.listSameRef (.ref h.objs.size) (.ref z) = false by simp [Builtin.List.listSameRef, zS], show (Value.type "zip" == Value.type "list") = false by decide, show (Value.type "zip" == Value.type "tuple") = false by decide, Bool.or_false, Bool.false_eq_true, if_false]
  refine wpAny_bind (wpAny_pyIter_zip (k2 _ _ hz) ?_)
  refine wpAny_bind (wpAny_holding ?_)
  unfold Builtin.List.listLengthHint
  refine wpAny_bind (wpAny_specialOf (ty k2) zip_no_len ?_)
  show wpAny _ A.in1.in1 (specialOf (Value.ref z) (Str.ofString "__length_hint__") >>= fun _ => _) _ _ _
  refine wpAny_bind (wpAny_specialOf (ty k2) zip_no_hint (wpAny_pure ?_))
  refine wpAny_bind (m := rule "list.extend.makes-room") (wpAny_rule ?_)
  refine wpAny_bind (m := Builtin.List.listTouch (.ref h.objs.size)) ?_
  refine wpAny_bind (m := updateSeq h.objs.size (·.push .none)) (wpAny_updateSeq q1 rfl ?_)
  have q3 := Heap.get?_update_self (Obj.mapSeq (·.push Value.none)) q1 rfl
  refine wpAny_updateSeq (hz := by seq_fits) q3 rfl ?_
  have q4 := Heap.get?_update_self (Obj.mapSeq (·.pop)) q3 rfl
  have k4 := up _ (Obj.mapSeq (·.pop)) (up _ (Obj.mapSeq (·.push Value.none)) k2)
  have sz : ∀ (h2 : Heap) (a : Addr) (f : Obj → Obj), (h2.update a f).objs.size = h2.objs.size := fun h2 a f => (Heap.SameBut.update (h := h2) (a := a) (f := f)).1
  refine wpAny_pure ⟨plainId_quiet F.plain_extend_loop _, ?_⟩
  refine dn_zip_drain (S := h.objs.size) (h0 := h) (B := h.objs.size + 1) (A := A.in1) Z D1 D2 hn ⟨zS, Nat.ne_of_gt (Heap.lt_size hTI), Nat.ne_of_gt (Heap.lt_size hTO), fun q => absurd (f1 _ q) (Nat.lt_irrefl _), fun q => absurd (f2 _ q) (Nat.lt_irrefl _)⟩ (Nat.lt_succ_self _)
    ⟨Nat.lt_succ_of_lt (Heap.lt_size hz), Nat.lt_succ_of_lt (Heap.lt_size hTO), Nat.lt_succ_of_lt (f1 _ Z.mem1), Nat.lt_succ_of_lt (f2 _ Z.mem2)⟩ (fun h' tk acc c a1 a2 a3 a4 => ⟨rfl, fin h' tk acc c a1 a2 a3 a4⟩)
    (min n1 n2) 0 _ _ #[] _ (Nat.zero_add _) (.inl ⟨k4 _ _ hz, a, b, k4 _ _ hTO⟩) (k4 _ _ hTI) (D1.frame _ _ _ st1 fun b _ => k4 b) (D2.frame _ _ _ st2 fun b _ => k4 b) (by simpa [Obj.mapSeq] using q4) ?_ rfl (fun j hj => absurd hj (Nat.not_lt_zero _)) (fun b o _ _ _ _ _ e => k4 b o e)
  exact (sz _ _ _).trans ((sz _ _ _).trans ((sz _ _ _).trans (Heap.size_push ..)))
end
end PySem

namespace Dn
open PySem PySem.Spec PyProof.Rows L2 RZ
/-- pairs laid one behind the other from B on -/
def upds : Hp → Nat → List (V × V) → Hp
  | H, _, [] => H
  | H, B, p :: ps => upds (upd H B (.tup [p.1, p.2])) (B + 1) ps
theorem upds_low : ∀ {ps : List (V × V)} {H : Hp} {B : Nat} {b : Addr}, b < B → upds H B ps b = H b
  | [], _, _, _, _ => rfl
  | p :: ps, H, B, b, h => by
    show upds _ (B + 1) ps b = _
    rw [upds_low (Nat.lt_succ_of_lt h), upd_ne (Nat.ne_of_lt h)]
theorem upds_at : ∀ {ps : List (V × V)} {H : Hp} {B j : Nat} {p : V × V}, ps[j]? = some p → upds H B ps (B + j) = some (.tup [p.1, p.2])
  | [], _, _, _, _, e => by simp at e
  | q :: ps, H, B, 0, p, e => by
    simp at e
    subst e
    show upds _ (B + 1) ps B = _
    rw [upds_low (Nat.lt_succ_self _), upd_same]
  | q :: ps, H, B, j + 1, p, e => by
    show upds _ (B + 1) ps (B + (j + 1)) = _
    rw [show B + (j + 1) = B + 1 + j by omega]
    exact upds_at (by simpa using e)
theorem upds_high : ∀ {ps : List (V × V)} {H : Hp} {B : Nat} {b : Addr}, B + ps.length ≤ b → upds H B ps b = H b
  | [], _, _, _, _ => rfl
  | p :: ps, H, B, b, h => by
    have h' : B + (ps.length + 1) ≤ b := h
    show upds _ (B + 1) ps b = _
    rw [upds_high (b := b) (show B + 1 + ps.length ≤ b from Nat.le_trans (Nat.le_of_eq (by omega)) h'), upd_ne (fun e => absurd h' (by rw [e]; exact Nat.not_le.mpr (by omega)))]
end Dn
namespace Dn
open PySem PySem.Spec PyProof.Rows L2 RZ
/-- a list or a tuple as a source of zip -/
theorem zip_src {X : Cx} {pins : List (Addr × Obj)} {σ : L2.St} {H : Hp} {s : Shared} {a : Addr} {xs : List V} (I : Inv X pins σ H s) (h : SqL X.K H a xs ∨ SqT X.K H a xs) :
    ∃ (its : List Value) (o : Obj) (Hh : Heap → Prop) (St : Addr → Nat → Heap → Prop), Vals xs its ∧ Begins (.ref a) o Hh ∧ Hh s.heap ∧ a < s.heap.objs.size ∧ (∀ A it, A.handled = none → a ≠ it → Draws X.prog X.w A it [it, a] its.length (fun i v => its[i]? = some v) (St it)) ∧ ∀ it h, h.get? it = some o → Hh h → St it 0 h := by
  rcases h with h | h
  · obtain ⟨its, rv, p, _⟩ := I.list h
    have p : s.heap.IsList a its.toArray := p.isList
    refine ⟨its, _, _, fun it i h => h.IsListIter it a i ∧ h.IsList a its.toArray, rv, begins_list a its.toArray, p, by obtain ⟨o, e, _⟩ := p; exact Heap.lt_size e, fun A it hh hne => ?_, fun it h e q => ⟨⟨_, e, rfl, rfl⟩, q⟩⟩
    have D := Draws.list (prog := X.prog) (w := X.w) (A := A) hh it a hne its.toArray
    simpa using D
  · obtain ⟨its, rv, p, _⟩ := I.tuple h
    have p : s.heap.IsTuple a its.toArray := p
    refine ⟨its, _, _, fun it i h => h.IsTupleIter it a i ∧ h.IsTuple a its.toArray, rv, begins_tuple a its.toArray, p, by obtain ⟨o, e, _⟩ := p; exact Heap.lt_size e, fun A it hh hne => ?_, fun it h e q => ⟨⟨_, e, rfl, rfl⟩, q⟩⟩
    have D := Draws.tuple (prog := X.prog) (w := X.w) (A := A) hh it a hne its.toArray
    simpa using D
end Dn
namespace Dn
open PySem PySem.Spec PyProof.Rows L2 RZ
def zRefs (S n : Nat) : List V := (List.range n).map fun j => V.ref (S + 1 + j : Nat)
def zHp (H : Hp) (S : Nat) (ps : List (V × V)) : Hp := upd (upds H (S + 1) ps) S (.lst (zRefs S ps.length))
def tLz (K : PySem.W.Frag) (ta : TA) : TE := fun σ H Q => ta σ H fun vs H1 => ∃ (a b : Addr) (xs ys : List V), vs = [.ref a, .ref b] ∧ (SqL K H1 a xs ∨ SqT K H1 a xs) ∧ (SqL K H1 b ys ∨ SqT K H1 b ys) ∧ (xs.zip ys).length ≤ sizeLine ∧
  ∀ S : Nat, (∀ c : Addr, S ≤ c → H1 c = none) → Q (.ref S) (zHp H1 S (xs.zip ys))
theorem zHp_old {H : Hp} {S : Nat} {ps : List (V × V)} {b : Addr} (h : b < S) : zHp H S ps b = H b := by
  unfold zHp
  rw [upd_ne (Nat.ne_of_lt h), upds_low (Nat.lt_succ_of_lt h)]
/-- what may be tracked behind it -/
theorem zHp_cases {H : Hp} {S : Nat} {ps : List (V × V)} {b : Addr} {o : HO} (h : zHp H S ps b = some o) : (b = S ∧ o = .lst (zRefs S ps.length)) ∨ (∃ j p, ps[j]? = some p ∧ b = (S + 1 + j : Nat) ∧ o = .tup [p.1, p.2]) ∨ H b = some o := by
  by_cases hS : b = S
  · subst hS
    unfold zHp at h
    rw [upd_same] at h
    exact .inl ⟨rfl, (Option.some.inj h).symm⟩
  · unfold zHp at h
    rw [upd_ne hS] at h
    by_cases h1 : b < S + 1
    · rw [upds_low h1] at h
      exact .inr (.inr h)
    · by_cases h2 : S + 1 + ps.length ≤ b
      · rw [upds_high h2] at h
        exact .inr (.inr h)
      · have h1' : S + 1 ≤ b := Nat.not_lt.mp h1
        have h2' : b < S + 1 + ps.length := Nat.not_le.mp h2
        obtain ⟨j, rfl⟩ := Nat.exists_eq_add_of_le h1'
        have hj : j < ps.length := Nat.lt_of_add_lt_add_left h2'
        have e := List.getElem?_eq_getElem hj
        rw [upds_at e] at h
        exact .inr (.inl ⟨j, _, e, rfl, (Option.some.inj h).symm⟩)
theorem vals_refs {S : Nat} : ∀ n, Vals (zRefs S n) ((List.range n).map fun j => Value.ref (S + 1 + j : Nat)) := fun n => by
  unfold zRefs
  induction (List.range n) with
  | nil => exact .nil
  | cons j l ih => exact .cons rfl ih
theorem pe_listzip {X : Cx} {a b : Expr} {ta : TA} {p p2 pos pos2 : Pos} (hc : X.calm = true) (hg : Gl X "list") (hm : X.mg "list" = none) (hg2 : Gl X "zip") (hm2 : X.mg "zip" = none) (ha : PA X [a, b] ta)
    (hs : starEach [.Call (.Name "zip" p2) [a, b] [] pos2] X.env = (false, eval (.Call (.Name "zip" p2) [a, b] [] pos2) X.env) :: starEach [] X.env := by rfl) (hs2 : starEach [a, b] X.env = (false, eval a X.env) :: starEach [b] X.env := by rfl) (hpl : (backTo pos2 (starEach [b] X.env)).any (·.1) = false := by rfl) :
    PE X (.Call (.Name "list" p) [.Call (.Name "zip" p2) [a, b] [] pos2] [] pos) (tLz X.K ta) := by
  refine ⟨fun pins s σ H Q I h => ?_⟩
  refine Call_ (ld_blt I hg hm PyProof.Rows.boot_list (PyProof.Rows.callWith_type1 ?_ hs rfl))
  rw [hs]
  show wpAny _ _ (spliced ((false, eval (.Call (.Name "zip" p2) [a, b] [] pos2) X.env) :: backTo pos (starEach [] X.env))) _ _ _
  refine Calls.spliced_cons (Call_ (ld_blt I hg2 hm2 PyProof.Rows.boot_zip (PyProof.Rows.callWith_type1 (thn (ha.run pos2 pins s σ H _ I h) fun us s1 ⟨vs, H1, I1, r1, a, b, xs, ys, ex, q1, q2, hz, q⟩ => ?_) hs2 hpl)))
  subst ex
  cases r1 with
  | cons r rr =>
    cases rr with
    | cons r' rr =>
      cases rr
      cases r
      cases r'
      obtain ⟨its1, o1, G1, St1, rv1, B1, g1, lt1, D1, st1⟩ := zip_src I1 q1
      obtain ⟨its2, o2, G2, St2, rv2, B2, g2, lt2, D2, st2⟩ := zip_src I1 q2
      obtain ⟨hp, g, d, t, os⟩ := s1
      refine zip_begins2 B1 B2 g1 g2 fun h' hzp hTI hTO e1 e2 hsz hk => ?_
      refine Calls.spliced_nil ?_
      have hh : X.A.in1.in1.in1.handled = none := I.ok.hd hc
      have n1 : a ≠ hp.objs.size := Nat.ne_of_lt lt1
      have n2 : b ≠ hp.objs.size + 1 := Nat.ne_of_lt (Nat.lt_succ_of_lt lt2)
      have lenz : min its1.length its2.length = (xs.zip ys).length := by rw [List.length_zip, rv1.length, rv2.length]
      refine dn_list_zip (h := h') (zip_sep2 (N := hp.objs.size) (fp1 := [a]) (fp2 := [b]) (by simpa using lt1) (by simpa using lt2)) (D1 _ _ hh n1) (D2 _ _ hh n2) (by rw [lenz]; exact hz) hzp hTI hTO (st1 _ _ e1 (B1.keeps _ _ g1 hk)) (st2 _ _ e2 (B2.keeps _ _ g2 hk))
        (fun c hcm => ?_) (fun c hcm => ?_) fun hF tk acc c hS hacc hpr hkp => ?_
      · have hsz' : hp.objs.size + 5 = h'.objs.size := hsz.symm
        rw [← hsz']
        rcases List.mem_cons.mp hcm with rfl | hcm
        · exact Nat.lt_add_of_pos_right (by omega)
        · rw [List.mem_singleton.mp hcm]; exact Nat.lt_of_lt_of_le lt1 (Nat.le_add_right _ _)
      · have hsz' : hp.objs.size + 5 = h'.objs.size := hsz.symm
        rw [← hsz']
        rcases List.mem_cons.mp hcm with rfl | hcm
        · exact Nat.add_lt_add_left (by omega) _
        · rw [List.mem_singleton.mp hcm]; exact Nat.lt_of_lt_of_le lt2 (Nat.le_add_right _ _)
      · have hsz' : h'.objs.size = hp.objs.size + 5 := hsz
        rw [hsz'] at hS hacc hpr hkp ⊢
        rw [lenz] at hacc hpr
        have kF : ∀ b o, hp.get? b = some o → hF.get? b = some o := fun b o e => by
          have lt := Heap.lt_size e
          exact hkp b o (Nat.ne_of_lt (Nat.lt_of_lt_of_le lt (Nat.le_add_right _ _))) (Nat.ne_of_lt (Nat.lt_of_lt_of_le lt (Nat.le_add_right _ _))) (Nat.ne_of_lt lt) (Nat.ne_of_lt (Nat.lt_of_lt_of_le lt (Nat.le_add_right _ _))) (Nat.ne_of_lt (Nat.lt_of_lt_of_le lt (Nat.le_add_right _ _))) (hk b o e)
        have low : ∀ b o, H1 b = some o → b < hp.objs.size := fun b o e => by
          obtain ⟨u, hu⟩ := objOk_get (I1.hok b o e)
          exact Heap.lt_size hu
        have same : ∀ b, b < hp.objs.size → zHp H1 (hp.objs.size + 5) (xs.zip ys) b = H1 b := fun b hb => zHp_old (Nat.lt_of_lt_of_le hb (Nat.le_add_right _ _))
        have Un1 : Un X.fs [] H1 (zHp H1 (hp.objs.size + 5) (xs.zip ys)) hp hF := {
          keep := fun b o q n _ _ => kF b o q
          slot := fun b o q n _ _ => ⟨o.slots, kF b o q⟩
          free := fun b o q n _ => by rw [same b (Heap.lt_size q)]; exact n
          there := fun b o q _ => ⟨o, kF b o q⟩
          tups := fun b xs q => by rw [same b (low b _ q)]; exact q
          frzs := fun b o v q => by rw [same b (low b _ q)]; exact q
          tbls := fun b ps q => ⟨#[], by rw [same b (low b _ q), q]; simp⟩ }
        have J := I1.un (t' := tk) Un1 fun b o e => ?_
        · exact ⟨.ref (hp.objs.size + 5), _, J, rfl, q (hp.objs.size + 5) fun c hc => I1.hok.fresh (Nat.le_trans (Nat.le_add_right _ _) hc)⟩
        · rcases zHp_cases e with ⟨rfl, rfl⟩ | ⟨j, pq, ej, rfl, rfl⟩ | e
          · have := vals_refs (S := hp.objs.size + 5) (xs.zip ys).length
            exact ⟨by simpa [zRefs] using hz, _, c, this, by rw [hS]; congr 1; rw [← hacc]⟩
          · have hj : j < (xs.zip ys).length := (List.getElem?_eq_some_iff.mp ej).1
            obtain ⟨x, y, px, py, hpj⟩ := hpr j hj
            obtain ⟨ex, ey⟩ := List.getElem?_zip_eq_some.mp ej
            obtain ⟨u1, hu1, ru1⟩ := rv1.get ex
            obtain ⟨u2, hu2, ru2⟩ := rv2.get ey
            rw [hu1] at px
            rw [hu2] at py
            cases px
            cases py
            exact ⟨by show 2 ≤ sizeLine; decide, [_, _], .cons ru1 (.cons ru2 .nil), ⟨_, hpj, rfl, _, rfl⟩⟩
          · exact (I1.hok b o e).stay (fun c v _ y => kF c v y) (fun c hc => by rw [same c (low c _ hc)]; exact hc) fun c xs hc => by rw [same c (low c _ hc)]; exact hc
end Dn
namespace Dn
open PySem PySem.Spec PyProof.Rows L2 RZ
section
variable {Γ : Gc} {φ : List Addr} {ρ : Rho} {M : Mem} {σ : L2.St}
theorem upds_in : ∀ {ps : List (V × V)} {H : Hp} {B : Nat}, (∀ c : Addr, B ≤ c → H c = none) → In Γ φ ρ M σ H → In Γ φ ρ M σ (upds H B ps) ∧ Mono φ ρ σ H φ ρ σ (upds H B ps)
  | [], H, B, _, I => ⟨I, Mono.refl _ _ _ _⟩
  | p :: ps, H, B, hn, I => by
    have hB := hn B (Nat.le_refl _)
    obtain ⟨I2, m2⟩ := upds_in (ps := ps) (H := upd H B (.tup [p.1, p.2])) (B := B + 1) (fun c hc => by rw [upd_ne (Nat.ne_of_gt (Nat.lt_of_succ_le hc))]; exact hn c (Nat.le_of_succ_le hc)) (I.new hB)
    exact ⟨I2, (Mono.new hB).trans m2⟩
theorem Ats.zip : ∀ {xs : List V} {ds : List D} {ys : List V} {es : List D} {H : Hp} {vs : List V}, Ats Γ φ H xs ds → Ats Γ φ H ys es → vs.length = (xs.zip ys).length → (∀ (j : Nat) (p : V × V), (xs.zip ys)[j]? = some p → ∃ q : Addr, vs[j]? = some (.ref q) ∧ H q = some (.tup [p.1, p.2])) → Ats Γ φ H vs (zipD ds es)
  | _, _, ys, es, H, vs, .nil, _, hl, _ => by
    have : vs = [] := by simpa using hl
    subst this
    exact .nil
  | _, _, _, _, H, vs, .cons _ _, .nil, hl, _ => by
    have : vs = [] := by simpa using hl
    subst this
    exact .nil
  | _, _, _, _, H, [], .cons a r, .cons b t, hl, _ => by simp at hl
  | _, _, _, _, H, v :: vs, .cons a r, .cons b t, hl, h => by
    obtain ⟨q, e, hq⟩ := h 0 _ rfl
    simp at e
    subst e
    exact .cons (.tup (SqT.of hq) (by show 2 ≤ sizeLine; rw [sizeLine_eq]; omega) (.cons a (.cons b .nil))) (Ats.zip r t (by simpa using hl) fun j p ep => h (j + 1) p (by simpa using ep))
end
def zlOf : List D → E (List D)
  | [.tup xs, .tup ys] => eOk (zipD xs ys)
  | [.lst xs, .lst ys] => eOk (zipD xs ys)
  | [.tup xs, .lst ys] => eOk (zipD xs ys)
  | [.lst xs, .tup ys] => eOk (zipD xs ys)
  | _ => eStuck
def seqD : D → Option (List D)
  | .tup ds => some ds
  | .lst ds => some ds
  | _ => none
theorem seqD_at {Γ : Gc} {φ : List Addr} {H : Hp} {v : V} {d : D} {ds : List D} (a : At Γ φ H v d) (e : seqD d = some ds) : ∃ p vs, v = .ref p ∧ (SqL Γ.K H p vs ∨ SqT Γ.K H p vs) ∧ vs.length ≤ sizeLine ∧ Ats Γ φ H vs ds := by
  cases a with
  | tup s z r => cases e; exact ⟨_, _, rfl, .inr s, z, r⟩
  | lst s z r => cases e; exact ⟨_, _, rfl, .inl s.seq, z, r⟩
  | _ => cases e
theorem zlOf_eq {ds : List D} {ρ ρ' : Rho} {M M' : Mem} {xs : List D} (h : zlOf ds ρ M = .ok xs ρ' M') : ρ' = ρ ∧ M' = M ∧ ∃ a b as bs, ds = [a, b] ∧ seqD a = some as ∧ seqD b = some bs ∧ xs = zipD as bs := by
  unfold zlOf at h
  split at h <;> first | (cases h; exact ⟨rfl, rfl, _, _, _, _, rfl, rfl, rfl, rfl⟩) | cases h
section
variable {X : Cx} {Γ : Gc} {W : WX} {a b : Expr} {L : E (List D)} {p p2 pos pos2 : Pos}
theorem f_listzip (hc : X.calm = true) (hg : Gl X "list") (hm : X.mg "list" = none) (hg2 : Gl X "zip") (hm2 : X.mg "zip" = none) (ha : PA X [a, b] (tA Γ W L)) (hK : X.K = Γ.K := by rfl)
    (hs : starEach [.Call (.Name "zip" p2) [a, b] [] pos2] X.env = (false, eval (.Call (.Name "zip" p2) [a, b] [] pos2) X.env) :: starEach [] X.env := by rfl) (hs2 : starEach [a, b] X.env = (false, eval a X.env) :: starEach [b] X.env := by rfl) (hpl : (backTo pos2 (starEach [b] X.env)).any (·.1) = false := by rfl) :
    PE X (.Call (.Name "list" p) [.Call (.Name "zip" p2) [a, b] [] pos2] [] pos) (tF Γ W (eBind L zlOf)) :=
  PEimp (pe_listzip hc hg hm hg2 hm2 ha hs hs2 hpl) fun σ H Q ⟨φ, ρ, M, I, h⟩ => tX.bind I h fun φ1 ρ1 M1 H1 vs l I1 m1 r h1 => by
    rw [hK]
    cases e : zlOf l ρ1 M1 with
    | stuck => rw [e] at h1; exact h1.elim
    | exc n t ρ' M' => exfalso; unfold zlOf at e; split at e <;> cases e
    | ok xs ρ' M' =>
      rw [e] at h1
      obtain ⟨rfl, rfl, da, db, as, bs, rfl, ea, eb, rfl⟩ := zlOf_eq e
      cases r with
      | cons a1 r1 =>
        cases r1 with
        | cons a2 r2 =>
          cases r2
          obtain ⟨pa, va, rfl, s1, z1, t1⟩ := seqD_at a1 ea
          obtain ⟨pb, vb, rfl, s2, z2, t2⟩ := seqD_at a2 eb
          have hz : (va.zip vb).length ≤ sizeLine := by rw [List.length_zip]; omega
          refine ⟨pa, pb, va, vb, rfl, s1, s2, hz, fun S hS => ?_⟩
          obtain ⟨I2, m2⟩ := upds_in (ps := va.zip vb) (B := S + 1) (fun c hc => hS c (Nat.le_of_succ_le hc)) I1
          have nS : upds H1 (S + 1) (va.zip vb) S = none := by rw [upds_low (Nat.lt_succ_self _)]; exact hS S (Nat.le_refl _)
          have I3 := I2.new (o := .lst (zRefs S (va.zip vb).length)) nS
          have m3 := m2.trans (Mono.new (o := .lst (zRefs S (va.zip vb).length)) nS)
          refine h1 φ1 _ _ I3 m3 ⟨S, _, rfl, .none (hS S (Nat.le_refl _)), I1.notIn (hS S (Nat.le_refl _)), I1.notOwned (hS S (Nat.le_refl _)), upd_same, by simpa [zRefs] using hz, ?_⟩
          refine Ats.zip (t1.mono m3.pre m3.pers) (t2.mono m3.pre m3.pers) (by simp [zRefs]) fun j q ej => ?_
          have hj : j < (va.zip vb).length := (List.getElem?_eq_some_iff.mp ej).1
          refine ⟨(S + 1 + j : Nat), by unfold zRefs; rw [List.getElem?_map, List.getElem?_range hj]; rfl, ?_⟩
          unfold zHp
          rw [upd_ne (show (S + 1 + j : Nat) ≠ S by omega)]
          exact upds_at ej
end
end Dn
-- DnCat
/-! Dn: lists joined, lists and tuples repeated. -/
namespace PySem
open Sem (wp)
open AutoSeq1 (wpAny_loadPart')
theorem dn_list_add (l : Addr) (its : Array Value) (n : Nat) (sl : Array (Option Value)) (b : Addr) (its2 : Array Value) (n2 : Nat) (sl2 : Array (Option Value)) (hz : its.size + its2.size ≤ sizeLine) :
    Meets (Builtin.«list.__add__» ⟨[.ref l, .ref b], []⟩) (fun _ R s => s.heap.get? l = some { cls := .type "list", dict := none, data := .seq its n, slots := sl } ∧ s.heap.get? b = some { cls := .type "list", dict := none, data := .seq its2 n2, slots := sl2 } ∧
      R (.ok (.ret (Value.ref s.heap.objs.size))) { s with heap := s.heap.push { cls := .type "list", data := .seq (its ++ its2) } }) :=
  .of_wp fun prog w A R s h => by
    obtain ⟨hp, g, d, tk, os⟩ := s
    obtain ⟨hl, hb, h⟩ := h
    have f1 := AutoSeq1.idx_int
    have f2 := AutoSeq1.sub_tuple_tuple
    have f3 := AutoSeq1.sub_list_list
    have f4 := AutoSeq1.sub_tuple_list
    have f5 := AutoSeq1.sub_list_tuple
    wp_walk using wpAny_loadPart' hl, wpAny_loadPart' hb
    exact ⟨_, rfl, h⟩
theorem dn_tup_same (l : Addr) (its : Array Value) (n : Nat) (dd : Option Addr) (sl : Array (Option Value)) (x : Int) (u : Tok) (c0 : (decide (x < -(2 ^ 63)) || decide (x ≥ 2 ^ 63)) = false) (c1 : (its.isEmpty || x == 1) = true) :
    Meets (Builtin.«tuple.__mul__» ⟨[.ref l, .int x u], []⟩) (fun _ R s => s.heap.get? l = some { cls := .type "tuple", dict := dd, data := .seq its n, slots := sl } ∧ R (.ok (.ret (Value.ref l))) s) :=
  .of_wp fun prog w A R s h => by
    obtain ⟨hp, g, d, tk, os⟩ := s
    obtain ⟨hl, h⟩ := h
    have f1 := AutoSeq1.idx_int
    wp_walk using wpAny_loadPart' hl
    repeat (first
      | (refine wpAny_ite_false (decide_eq_false (by rw [c0]; exact Bool.false_ne_true)) ?_; wp_walk using wpAny_loadPart' hl)
      | (refine wpAny_ite_true (decide_eq_true c1) ?_; wp_walk using wpAny_loadPart' hl))
    exact ⟨_, rfl, h⟩
theorem dn_tup_none (l : Addr) (its : Array Value) (n : Nat) (dd : Option Addr) (sl : Array (Option Value)) (x : Int) (u : Tok) (c0 : (decide (x < -(2 ^ 63)) || decide (x ≥ 2 ^ 63)) = false) (c1 : (its.isEmpty || x == 1) = false) (c2 : (decide (x ≤ 0) || its.isEmpty) = true) :
    Meets (Builtin.«tuple.__mul__» ⟨[.ref l, .int x u], []⟩) (fun _ R s => s.heap.get? l = some { cls := .type "tuple", dict := dd, data := .seq its n, slots := sl } ∧ R (.ok (.ret (Value.ref s.heap.objs.size))) { s with heap := s.heap.push { cls := .type "tuple", data := .seq #[] } }) :=
  .of_wp fun prog w A R s h => by
    obtain ⟨hp, g, d, tk, os⟩ := s
    obtain ⟨hl, h⟩ := h
    have f1 := AutoSeq1.idx_int
    wp_walk using wpAny_loadPart' hl
    repeat (first
      | (refine wpAny_ite_false (decide_eq_false (by rw [c0]; exact Bool.false_ne_true)) ?_; wp_walk using wpAny_loadPart' hl)
      | (refine wpAny_ite_false (decide_eq_false (by rw [c1]; exact Bool.false_ne_true)) ?_; wp_walk using wpAny_loadPart' hl)
      | (refine wpAny_ite_true (decide_eq_true c2) ?_; wp_walk using wpAny_loadPart' hl))
    exact ⟨_, rfl, h⟩
end PySem
namespace Dn
open PySem PySem.Spec PyProof.Rows L2
def rCatZ (K : PySem.W.Frag) : R2 := fun x y H Q => ∃ l b xs zs, x = .ref l ∧ y = .ref b ∧ SqL K H l xs ∧ SqL K H b zs ∧ xs.length + zs.length ≤ sizeLine ∧ ∀ p, H p = none → Q (.ref p) (upd H p (.lst (xs ++ zs)))
theorem op_catZ {X : Cx} : OpR X (binaryOp .Add) (rCatZ X.K) := by
  intro pins s σ H x y v u Q I rx ry ⟨l, b, xs, zs, ex, ey, hx, hy, hz, q⟩
  subst ex ey
  obtain rfl : v = Value.ref l := rx
  obtain rfl : u = Value.ref b := ry
  obtain ⟨its, r, ⟨⟨c1, d1, dt1, s1⟩, n, e1, k1, k2, k3⟩, z1⟩ := I.list hx
  obtain ⟨its2, r2, ⟨⟨c2, d2, dt2, s2⟩, n2, e2, j1, j2, j3⟩, z2⟩ := I.list hy
  dsimp only at k1 k2 k3 j1 j2 j3
  subst k1 k2 k3 j1 j2 j3
  refine concat_meets ⟨_, e1, rfl⟩ ⟨_, e2, rfl⟩ noFill_list_add seq_list_add F.slot_list_add F.entry_list_add (F.args_list_add_2 _ _) (PySem.dn_list_add l its.toArray n s1 b its2.toArray n2 s2 (by rw [List.size_toArray, List.size_toArray, ← r.length, ← r2.length]; exact hz)) ⟨e1, e2, ?_⟩
  rw [show its.toArray ++ its2.toArray = (its ++ its2).toArray by simp]
  exact ⟨.ref _, _, I.lnew (t' := s.toks) (r.append r2) (by rw [List.length_append]; omega), rfl, q _ I.fresh⟩
section
variable {X : Cx} {Γ : Gc} {W : WX} {a b : Expr} {L L' : E (List D)} {F : E D} {pos : Pos}
/-- a list (own, new, of the memory, kept) as a list -/
abbrev RL (Γ : Gc) : Rel V (List D) := fun _ φ' _ _ H' v ds => ∃ p vs, v = .ref p ∧ SqL Γ.K H' p vs ∧ vs.length ≤ sizeLine ∧ Ats Γ φ' H' vs ds
instance {Γ : Gc} : RelOk (RL Γ) := ⟨fun _ h => h⟩
abbrev tL (Γ : Gc) (W : WX) (L : E (List D)) : TE := tX Γ W (RL Γ) L
def lstOf (d : D) : E (List D) := fun ρ M => match d with
  | .lst ds => .ok ds ρ M
  | .ref i => match M[i]? with
    | some (.lst ds) => .ok ds ρ M
    | _ => .stuck
  | _ => .stuck
def eLstV (F : E D) : E (List D) := eBind F lstOf
theorem l_e (ha : PE X a (tE Γ W F)) : PE X a (tL Γ W (eLstV F)) := PEimp ha fun σ H Q ⟨φ, ρ, M, I, h⟩ => tX.bind I h fun φ1 ρ1 M1 H1 v d I1 m1 a1 h1 => by
  cases a1 with
  | lst s z r => exact h1.now I1 ⟨_, _, rfl, s.seq, z, r⟩
  | ref e =>
    simp only [lstOf] at h1
    split at h1
    · rename_i ds' em
      obtain ⟨p, ep, vs, hp, z, r⟩ := I1.mem _ _ em
      rw [e] at ep; cases ep
      exact h1.now I1 ⟨_, _, rfl, SqL.of hp, z, r⟩
    · exact h1.elim
  | _ => exact h1.elim
theorem l_f (ha : PE X a (tF Γ W L)) : PE X a (tL Γ W L) := PEimp ha fun σ H Q ⟨φ, ρ, M, I, h⟩ => by
  refine ⟨φ, ρ, M, I, ?_⟩
  cases e : L ρ M with
  | ok ds ρ' M' =>
    rw [e] at h
    exact fun φ' H' b I' m' ⟨p, vs, e1, _, _, _, hp, z, r⟩ => h φ' H' b I' m' ⟨p, vs, e1, SqL.of hp, z, r⟩
  | exc n t ρ' M' => rw [e] at h; exact h
  | stuck => rw [e] at h; exact h
theorem l_own (i : Nat) {x : Str} (h : PE X (.Name x pos) (tVar i)) : PE X (.Name x pos) (tL Γ W (eOwn i)) :=
  PEimp h fun σ H Q ⟨φ, ρ, M, I, h⟩ => by
    unfold eOwn at h
    split at h
    · rename_i ds e
      obtain ⟨p, s, ⟨vs, hp, z, r⟩, n⟩ := I.own i _ e
      exact ⟨_, s, h.now I ⟨p, vs, rfl, SqL.of hp, z, r⟩⟩
    · exact h.elim
theorem sq_l (ha : PE X a (tL Γ W L)) : PE X a (tSq Γ W L) := PEimp ha fun σ H Q ⟨φ, ρ, M, I, h⟩ => by
  refine ⟨φ, ρ, M, I, ?_⟩
  cases e : L ρ M with
  | ok ds ρ' M' =>
    rw [e] at h
    exact fun φ' H' b I' m' ⟨p, vs, e1, s, z, r⟩ => h φ' H' b I' m' ⟨p, vs, e1, .inl s, z, r⟩
  | exc n t ρ' M' => rw [e] at h; exact h
  | stuck => rw [e] at h; exact h
/-- xs + ys. The left list must still stand as it was behind the right side: it is asked anew that the right side is a value or new. -/
def eCat (L L' : E (List D)) : E (List D) := eBind L fun xs => eBind L' fun ys => if xs.length + ys.length ≤ sizeLine then eOk (xs ++ ys) else eStuck
/-- the left side new or kept -/
abbrev RLs (Γ : Gc) : Rel V (List D) := fun H φ' ρ' σ' H' v ds => ∃ p vs, v = .ref p ∧ SqL Γ.K H' p vs ∧ vs.length ≤ sizeLine ∧ Ats Γ φ' H' vs ds ∧ ∀ φ2 ρ2 σ2 H2, Mono φ' ρ' σ' H' φ2 ρ2 σ2 H2 → SqL Γ.K H2 p vs
instance {Γ : Gc} : RelOk (RLs Γ) := ⟨fun _ h => h⟩
theorem ls_f (ha : PE X a (tF Γ W L)) : PE X a (tX Γ W (RLs Γ) L) := PEimp ha fun σ H Q ⟨φ, ρ, M, I, h⟩ => by
  refine ⟨φ, ρ, M, I, ?_⟩
  cases e : L ρ M with
  | ok ds ρ' M' =>
    rw [e] at h
    exact fun φ' H' b I' m' ⟨p, vs, e1, _, n1, no, hp, z, r⟩ => h φ' H' b I' m' ⟨p, vs, e1, SqL.of hp, z, r, fun _ _ _ H2 m2 => SqL.of (m2.keep p _ hp nt_lst n1 no)⟩
  | exc n t ρ' M' => rw [e] at h; exact h
  | stuck => rw [e] at h; exact h
def frzOf (d : D) : E (List D) := match d with
  | .lst ds => eOk ds
  | _ => eStuck
theorem ls_e (ha : PE X a (tE Γ W F)) : PE X a (tX Γ W (RLs Γ) (eBind F frzOf)) := PEimp ha fun σ H Q ⟨φ, ρ, M, I, h⟩ => tX.bind I h fun φ1 ρ1 M1 H1 v d I1 m1 a1 h1 => by
  cases a1 with
  | lst s z r => exact h1.now I1 ⟨_, _, rfl, s.seq, z, r, fun _ _ _ H2 m2 => (m2.pers.fz s).seq⟩
  | _ => exact h1.elim
theorem f_cat (ha : PE X a (tX Γ W (RLs Γ) L)) (hb : PE X b (tL Γ W L')) (hK : X.K = Γ.K := by rfl) : PE X (.BinOp a .Add b pos) (tF Γ W (eCat L L')) :=
  PEimp (pe_op op_catZ ha hb) fun σ H Q ⟨φ, ρ, M, I, h⟩ => tX.bind I h fun φ1 ρ1 M1 H1 v xs I1 m1 ⟨p, vs, ev, s1, z1, r1, st⟩ h1 => tX.bind I1 h1 fun φ2 ρ2 M2 H2 u ys I2 m2 ⟨q, ws, eu, s2, z2, r2⟩ h2 => by
    subst ev eu
    split at h2
    · rename_i hz
      rw [hK]
      exact ⟨p, q, vs, ws, rfl, rfl, st _ _ _ _ m2, s2, by rw [r1.length, r2.length]; exact hz, fun k hk => h2.laid I2 hk (rf_new I2 hk (by rw [List.length_append, r1.length, r2.length]; exact hz) ((r1.mono m2.pre m2.pers).append r2))⟩
    · exact h2.elim
end

/-! ### tuple * int, list * int -/
def rRepZ (K : PySem.W.Frag) : R2 := fun x y H Q => ∃ l k xs, x = .ref l ∧ y = .int k ∧ SqT K H l xs ∧ -1000 ≤ k ∧ k ≤ 1000 ∧ xs.length ≤ 1000 ∧ (xs = [] ∨ k = 1 → Q (.ref l) H) ∧ (¬ (xs = [] ∨ k = 1) → ∀ p, H p = none → Q (.ref p) (upd H p (.tup (List.replicate k.toNat xs).flatten)))
theorem op_repZ {X : Cx} : OpR X (binaryOp .Mult) (rRepZ X.K) := by
  intro pins s σ H x y v u Q I rx ry ⟨l, k, xs, ex, ey, hT, h1, h2, hl, qa, qb⟩
  by_cases hk : 2 ≤ k ∧ xs ≠ []
  · exact op_repT pins s σ H x y v u Q I rx ry ⟨l, k, xs, ex, ey, hT, hk.2, hk.1, h2, hl, qb (by rintro (z | z); exact hk.2 z; omega)⟩
  · subst ex ey
    obtain rfl : v = Value.ref l := rx
    obtain ⟨t, rfl⟩ := ry
    obtain ⟨its, r, ⟨⟨cls, dd, data, sl⟩, ho, hc, n, hd⟩, hs⟩ := I.tuple hT
    dsimp only at hc hd
    subst hc hd
    have c0 : (decide (k < -(2 ^ 63)) || decide (k ≥ 2 ^ 63)) = false := by
      rw [decide_eq_false (by omega), decide_eq_false (by omega)] <;> rfl
    have emp : its.toArray.isEmpty = decide (xs = []) := by
      cases r <;> simp
    by_cases hs1 : xs = [] ∨ k = 1
    · have c1 : (its.toArray.isEmpty || k == 1) = true := by
        rw [emp]
        rcases hs1 with z | z
        · simp [z]
        · simp [z]
      refine wpAny_binaryOp_repeat_ref (T := "tuple") (U := "int") (by decide) ⟨_, ho, rfl⟩ (fun s' => typeIs_int s' k t) noFill_tuple_mul F.fills_int_mul F.slot_int_rmul repeat_tuple F.slot_int_index.lookup
        (call_meets F.slot_int_rmul (typeIs_int s k t) F.entry_int_rmul (F.args_int_rmul_2 _ _) (int_rmul_tuple k t l its.toArray n dd sl) ⟨ho, rfl, ⟨_, ho, rfl⟩, call_meets F.slot_tuple_mul ⟨_, ho, rfl⟩ F.entry_tuple_mul (F.args_tuple_mul_2 _ _) (PySem.dn_tup_same l its.toArray n dd sl k t c0 c1) ⟨ho, ?_⟩⟩)
      exact ⟨.ref l, H, I, rfl, qa hs1⟩
    · have c1 : (its.toArray.isEmpty || k == 1) = false := by
        rw [emp, decide_eq_false (fun z => hs1 (.inl z)), Bool.false_or]
        exact beq_eq_false_iff_ne.mpr fun z => hs1 (.inr z)
      have k0 : k ≤ 0 := by
        have : ¬ 2 ≤ k := fun z => hk ⟨z, fun y => hs1 (.inl y)⟩
        have : k ≠ 1 := fun z => hs1 (.inr z)
        omega
      refine wpAny_binaryOp_repeat_ref (T := "tuple") (U := "int") (by decide) ⟨_, ho, rfl⟩ (fun s' => typeIs_int s' k t) noFill_tuple_mul F.fills_int_mul F.slot_int_rmul repeat_tuple F.slot_int_index.lookup
        (call_meets F.slot_int_rmul (typeIs_int s k t) F.entry_int_rmul (F.args_int_rmul_2 _ _) (int_rmul_tuple k t l its.toArray n dd sl) ⟨ho, rfl, ⟨_, ho, rfl⟩, call_meets F.slot_tuple_mul ⟨_, ho, rfl⟩ F.entry_tuple_mul (F.args_tuple_mul_2 _ _) (PySem.dn_tup_none l its.toArray n dd sl k t c0 c1 (by rw [decide_eq_true k0]; rfl)) ⟨ho, ?_⟩⟩)
      have q := qb hs1
      rw [show k.toNat = 0 by omega] at q
      exact ⟨.ref s.heap.objs.size, _, I.laid (t' := s.toks) (o := .tup []) (fun b ob e => Heap.get?_push_of_some _ e) (Nat.le_refl _) ⟨by show 0 ≤ sizeLine; exact Nat.zero_le _, [], .nil, IsTup.new _ _⟩, rfl, q _ (I.hok.fresh (Nat.le_refl _))⟩
def gMulT : D → D → Option D
  | .tup ds, .int k => if -1000 ≤ k ∧ k ≤ 1000 ∧ ds.length ≤ 1000 then some (.tup (List.replicate k.toNat ds).flatten) else none
  | _, _ => none
theorem rep_nil {α : Type} {xs : List α} {k : Nat} (h : xs = [] ∨ k = 1) : (List.replicate k xs).flatten = xs := by
  rcases h with rfl | rfl
  · induction k with
    | zero => rfl
    | succ k ih => rw [List.replicate_succ, List.flatten_cons, ih]; rfl
  · simp
theorem Ats.rep {Γ : Gc} {φ : List Addr} {H : Hp} {vs : List V} {ds : List D} (r : Ats Γ φ H vs ds) : ∀ k : Nat, Ats Γ φ H (List.replicate k vs).flatten (List.replicate k ds).flatten
  | 0 => .nil
  | k + 1 => by
    rw [List.replicate_succ, List.replicate_succ, List.flatten_cons, List.flatten_cons]
    exact r.append (Ats.rep r k)
theorem rep_len {α : Type} (xs : List α) : ∀ k : Nat, (List.replicate k xs).flatten.length = k * xs.length
  | 0 => by simp
  | k + 1 => by rw [List.replicate_succ, List.flatten_cons, List.length_append, rep_len xs k, Nat.succ_mul]; omega
theorem od_repZ {Γ : Gc} : OpD Γ (rRepZ Γ.K) gMulT := fun φ ρ M σ H x y d e z Q I a b q k1 k2 => by
  cases a with
  | @tup p vs ds s hz r =>
    cases b with
    | int k =>
      simp only [gMulT] at q
      split at q
      · rename_i hb
        cases q
        have hl := r.length
        have zz : (List.replicate k.toNat vs).flatten.length ≤ sizeLine := by
          rw [rep_len, sizeLine_eq]
          have : k.toNat * vs.length ≤ 1000 * 1000 := Nat.mul_le_mul (by omega) (by omega)
          omega
        refine ⟨p, k, vs, rfl, rfl, s, hb.1, hb.2.1, by omega, fun hs => k1 _ ?_, fun hs q hq => k2 _ _ _ hq (.tup (SqT.of upd_same) zz ((r.rep k.toNat).mono (Pre.refl _) (pers_new hq)))⟩
        have h1 : ds = [] ∨ k.toNat = 1 := by
          rcases hs with rfl | rfl
          · cases r; exact .inl rfl
          · exact .inr rfl
        rw [rep_nil h1]
        exact .tup s hz r
      · cases q
    | _ => simp only [gMulT] at q; cases q
  | _ => simp only [gMulT] at q; cases q
section
variable {X : Cx} {Γ : Gc} {W : WX} {a b : Expr} {L L' : E (List D)} {F G : E D} {pos : Pos}
theorem e_mulT (ha : PE X a (tE Γ W F)) (hb : PE X b (tE Γ W G)) (hK : X.K = Γ.K := by rfl) : PE X (.BinOp a .Mult b pos) (tE Γ W (eOp gMulT F G)) := e_op (by rw [← hK]; exact op_repZ) od_repZ ha hb
def eRepL (L : E (List D)) (G : E D) : E (List D) := eBind L fun xs => eBind G fun d => match d with
  | .int k => if -1000 ≤ k ∧ k ≤ 1000 ∧ xs.length ≤ 1000 then eOk (List.replicate k.toNat xs).flatten else eStuck
  | _ => eStuck
theorem f_repL (ha : PE X a (tF Γ W L)) (hb : PE X b (tE Γ W G)) : PE X (.BinOp a .Mult b pos) (tF Γ W (eRepL L G)) :=
  PEimp (pe_op op_rep ha hb) fun σ H Q ⟨φ, ρ, M, I, h⟩ => tX.bind0 I h fun φ1 ρ1 M1 H1 v xs I1 m1 ⟨p, vs, ev, e0, n1, no, hp, z1, r1⟩ h1 => by
    subst ev
    refine tX.bind I1 (h1.from m1) fun φ2 ρ2 M2 H2 u d I2 m2 a2 h2 => ?_
    cases a2 with
    | int k =>
      dsimp only at h2
      split at h2
      · rename_i hb
        have hl := r1.length
        have zz : vs.length * k.toNat ≤ sizeLine := by
          rw [sizeLine_eq]
          have : vs.length * k.toNat ≤ 1000 * 1000 := Nat.mul_le_mul (by omega) (by omega)
          omega
        refine ⟨p, k, vs, rfl, rfl, m2.keep p _ hp nt_lst n1 no, by omega, by omega, zz, fun q hq => h2.laid I2 hq (rf_new I2 hq (by rw [rep_len, Nat.mul_comm]; exact zz) ((r1.mono m2.pre m2.pers).rep k.toNat))⟩
      · exact h2.elim
    | _ => exact h2.elim
end
end Dn
-- DnCall2
/-! Dn: calls by keywords alone; calls of a def that a parameter holds. -/
namespace Dn
open PySem PySem.Spec PyProof.Rows L2
def pickL {α : Type} (idx : List Nat) (l : List α) : List α := idx.filterMap fun i => l[i]?
theorem pick_ats {Γ : Gc} {φ : List Addr} {H : Hp} {vs : List V} {ds : List D} (r : Ats Γ φ H vs ds) : ∀ idx : List Nat, Ats Γ φ H (pickL idx vs) (pickL idx ds)
  | [] => .nil
  | i :: idx => by
    unfold pickL
    rw [List.filterMap_cons, List.filterMap_cons]
    cases e : ds[i]? with
    | none =>
      have : vs[i]? = none := by
        rw [List.getElem?_eq_none_iff] at e ⊢
        rw [r.length]; exact e
      rw [this]
      exact pick_ats r idx
    | some d =>
      obtain ⟨v, ev, av⟩ := r.get e
      rw [ev]
      exact .cons av (pick_ats r idx)
theorem pick_vals {vs : List V} {us : List Value} (r : Vals vs us) : ∀ idx : List Nat, Vals (pickL idx vs) (pickL idx us)
  | [] => .nil
  | i :: idx => by
    unfold pickL
    rw [List.filterMap_cons, List.filterMap_cons]
    cases e : vs[i]? with
    | none =>
      have : us[i]? = none := by
        rw [List.getElem?_eq_none_iff] at e ⊢
        rw [← r.length]; exact e
      rw [this]
      exact pick_vals r idx
    | some d =>
      obtain ⟨v, ev, av⟩ := Vals.get r e
      rw [ev]
      exact .cons av (pick_vals r idx)
/-- a call by the keywords ks: idx tells where each parameter stands among them -/
def KwB (K : PySem.W.Frag) (fd : FuncData) (ps ks : List Str) (idx : List Nat) : Prop := ∀ (s : Shared) (ws : List Value), K.In s.heap → ws.length = ks.length → BindsTo s fd ⟨[], ks.zip ws⟩ (ps.zip (pickL idx ws))
def eCallK (n : Nat) (idx : List Nat) (m : Nat) (G : Fn) (L : E (List D)) : E D := eBind L fun ds => if ds.length = m ∧ (pickL idx ds).length = n then callG G (pickL idx ds) else eStuck
section
variable {X : Cx} {Γ : Gc} {W : WX} {k n : Nat} {f : Addr} {fd : FuncData} {ps ks : List Str} {idx : List Nat} {G : Fn} {x : Str} {p pos : Pos} {e : Expr} {es : List Expr} {kws : List Keyword} {L : E (List D)}
theorem e_callK (tk : Takes X W) (F : FnOk X.prog X.w X.K X.mg X.base (L2.CX X.prog X.w) k f fd ps (spG Γ n G)) (hr : Room k X.A) (hg : Gl X x) (hm : X.mg x = some (.ref f)) (hk : PySem.W.keepIn X.K (.ref f) = true) (hb : KwB X.K fd ps ks idx)
    (ha : PK X kws (tA Γ W L)) (hl : ks.length = kws.length := by rfl) (hall : (backToKw pos (keywordEach kws X.env)).all (·.1.isSome) = true := by rfl) (hks : (backToKw pos (keywordEach kws X.env)).filterMap (·.1) = ks := by rfl)
    (hpl : ((backTo pos (starEach [] X.env)).any (·.1) || (backToKw pos (keywordEach kws X.env)).any (·.1.isNone)) = false := by rfl) (hdb : (x == ("__debug__" : Str)) = false := by decide) :
    PE X (.Call (.Name x p) [] kws pos) (tE Γ W (eCallK n idx ks.length G L)) := by
  refine ⟨fun pins s σ H Q I ⟨φ, ρ, M, J, h⟩ => ?_⟩
  refine wpAny_Call_Name_kw (ld_glob I hg hm ?_ hdb)
  refine PySem.W.callWith_KW0 (h₀ := X.base) I.ok.mod.kin hk hall (thn (ha.run pos pins s σ H _ I (tX.bind J h fun φ1 ρ1 M1 H1 vs ds I1 m1 r h1 => (⟨φ1, ρ1, M1, ds, I1, r, h1⟩ : ∃ φ1 ρ1 M1 ds, In Γ φ1 ρ1 M1 σ H1 ∧ Ats Γ φ1 H1 vs ds ∧ Out Γ W σ (RD Γ) φ1 ρ1 H1 Q ((if ds.length = ks.length ∧ (pickL idx ds).length = n then callG G (pickL idx ds) else eStuck) ρ1 M1)))) fun ws s2 ⟨zs, H2, I2, rz, φ1, ρ1, M1, ds, J1, r, h1⟩ => ⟨I2.kIn, ?_⟩) hpl
  rw [hks]
  by_cases hn : ds.length = ks.length ∧ (pickL idx ds).length = n
  case neg => rw [if_neg hn] at h1; exact h1.elim
  rw [if_pos hn] at h1
  have q := call_read J1 (pick_ats r idx) hn.2 h1
  have rw' := pick_vals rz idx
  have lw : ws.length = ks.length := by rw [← rz.length, r.length]; exact hn.1
  refine wpAny_call (codeAny_mono (F.run X.A X.stack s2 H2 ⟨[], ks.zip ws⟩ (pickL idx ws) (pickL idx zs) Q (WE W σ) hr I2.env0 (hb s2 ws I2.kIn lw) rw' q) fun r s' hq => ?_)
  rcases r with e | fl
  · exact passAt tk σ pins H2 s2 e s' I2 hq
  · rcases fl with _ | _ | _ | v
    · exact False.elim hq
    · exact False.elim hq
    · exact False.elim hq
    · exact I2.after hq
theorem k_nil : PK X [] (tA Γ W eNil) := ⟨fun pos pins s σ H Q I ⟨φ, ρ, M, J, h⟩ => pk_nil.run pos pins s σ H Q I (h.now J .nil)⟩
theorem k_cons {nm : Option Str} {kpos : Pos} {F : E D} (ha : PE X e (tE Γ W F)) (hr : PK X kws (tA Γ W L)) : PK X (⟨nm, e, kpos⟩ :: kws) (tA Γ W (eCons F L)) :=
  ⟨fun pos pins s σ H Q I ⟨φ, ρ, M, J, h⟩ => (pk_cons ha hr).run pos pins s σ H Q I (tX.bind J h fun φ1 ρ1 M1 H1 v d I1 m1 a1 h1 => tX.bind I1 h1 fun φ2 ρ2 M2 H2 vs ds I2 m2 a2 h2 => h2.now I2 (.cons (a1.mono m2.pre m2.pers) a2))⟩
/-! ### a parameter that holds a def -/
/-- what the defs that may be handed in promise -/
def TblOk (X : Cx) (Γ : Gc) (k : Nat) (tb : Str → Option (Nat × Fn)) : Prop := ∀ n m G, tb n = some (m, G) → ∃ f fd ps, X.mg n = some (.ref f) ∧ FnOk X.prog X.w X.K X.mg X.base (L2.CX X.prog X.w) k f fd ps (spG Γ m G) ∧ PySem.W.keepIn X.K (.ref f) = true ∧ Binds X.K fd ps []
def eCallL (i : Nat) (tb : Str → Option (Nat × Fn)) (L : E (List D)) : E D := fun ρ M => match ρ[i]? with
  | some (.val (.fn n)) => (match tb n with
    | some (m, G) => eCall m G L ρ M
    | none => .stuck)
  | _ => .stuck
theorem e_callL {i : Nat} {tb : Str → Option (Nat × Fn)} (tk : Takes X W) (T : TblOk X Γ k tb) (hr : Room k X.A) (hv : PE X (.Name x p) (tVar i)) (ha : PA X (e :: es) (tA Γ W L)) (hM : X.mg = Γ.mg := by rfl)
    (he : starEach (e :: es) X.env = (false, eval e X.env) :: starEach es X.env := by rfl) (hpl : (backTo pos (starEach es X.env)).any (·.1) = false := by rfl) :
    PE X (.Call (.Name x p) (e :: es) [] pos) (tE Γ W (eCallL i tb L)) := by
  refine ⟨fun pins s σ H Q I ⟨φ, ρ, M, J, h⟩ => ?_⟩
  unfold eCallL at h
  split at h
  · rename_i nm en
    split at h
    · rename_i m G et
      obtain ⟨f, fd, ps, hm, F, hk, hb⟩ := T _ _ _ et
      obtain ⟨v, sv, av⟩ := J.val i _ en
      cases av with
      | @fn a _ ha' =>
        rw [← hM, hm] at ha'
        cases ha'
        refine wpAny_Call_Name_kw (thn (hv.run pins s σ H (fun v H1 => v = .ref f ∧ H1 = H) I ⟨.ref f, sv, rfl, rfl⟩) fun u s1 ⟨v, H1, I1, r1, ev, eH⟩ => ?_)
        subst ev eH
        obtain rfl : u = Value.ref f := r1
        refine PySem.W.callWith_K (h₀ := X.base) I.ok.mod.kin hk (thn (ha.run pos pins s1 σ _ _ I1 (tX.bind J h fun φ1 ρ1 M1 H1 vs ds I1 m1 r h1 => (⟨φ1, ρ1, M1, ds, I1, r, h1⟩ : ∃ φ1 ρ1 M1 ds, In Γ φ1 ρ1 M1 σ H1 ∧ Ats Γ φ1 H1 vs ds ∧ Out Γ W σ (RD Γ) φ1 ρ1 H1 Q ((if ds.length = m then callG G ds else eStuck) ρ1 M1)))) fun us s2 ⟨vs, H2, I2, r, φ1, ρ1, M1, ds, J1, rr, h1⟩ => ⟨I2.kIn, ?_⟩) he hpl
        by_cases hn : ds.length = m
        case neg => rw [if_neg hn] at h1; exact h1.elim
        rw [if_pos hn] at h1
        exact run_fnS (E := WE W) F hr hb (passAt tk σ) I2 r (call_read J1 rr hn h1)
    · exact h.elim
  · exact h.elim
end
end Dn
-- DnNil
/-! Dn: a list beside the empty list. -/
namespace Dn
open PySem PySem.Spec PyProof.Rows L2
def rNil (K : PySem.W.Frag) (neg : Bool) : R2 := fun x y H Q => ∃ l b xs, x = .ref l ∧ y = .ref b ∧ SqL K H l xs ∧ SqL K H b [] ∧ Q (.bl (if neg then !xs.isEmpty else xs.isEmpty)) H
theorem nil_sizes {xs : List V} {its : List Value} (r : Vals xs its) : (its.toArray.size = (#[] : Array Value).size ∧ xs.isEmpty = true) ∨ ((its.toArray.size != (#[] : Array Value).size) = true ∧ xs.isEmpty = false) := by
  cases r with
  | nil => exact .inl ⟨rfl, rfl⟩
  | cons a r => exact .inr ⟨by simp, rfl⟩
theorem op_nilEq {X : Cx} (hu : X.A.units < cLine) : OpR X (compareOp .Eq) (rNil X.K false) := by
  intro pins s σ H x y v u Q I rx ry ⟨l, b, xs, ex, ey, hx, hy, q⟩
  subst ex ey
  obtain rfl : v = Value.ref l := rx
  obtain rfl : u = Value.ref b := ry
  obtain ⟨its, r, p1, z1⟩ := I.list hx
  obtain ⟨its2, r2, p2, z2⟩ := I.list hy
  cases r2
  have hq : ∀ k : Bool, k = xs.isEmpty → ∃ v' H', Inv X pins σ H' s ∧ RelV v' (.bool k) ∧ Q v' H' := fun k e => ⟨.bl k, H, I, rfl, by subst e; exact q⟩
  rcases nil_sizes r with ⟨h1, h2⟩ | ⟨h1, h2⟩
  · refine SeqAt.eq_listAt (e := fun _ => true) p1.isList p2.isList h1 hu (fun j _ h => absurd h (Nat.not_lt_zero _)) (hq _ ?_)
    rw [h2]; simp
  · exact SeqAt.eq_list_lengthsAt p1.isList p2.isList h1 hu (hq _ h2.symm)
theorem op_nilNe {X : Cx} (hu : X.A.units < cLine) : OpR X (compareOp .NotEq) (rNil X.K true) := by
  intro pins s σ H x y v u Q I rx ry ⟨l, b, xs, ex, ey, hx, hy, q⟩
  subst ex ey
  obtain rfl : v = Value.ref l := rx
  obtain rfl : u = Value.ref b := ry
  obtain ⟨its, r, p1, z1⟩ := I.list hx
  obtain ⟨its2, r2, p2, z2⟩ := I.list hy
  cases r2
  have hq : ∀ k : Bool, k = !xs.isEmpty → ∃ v' H', Inv X pins σ H' s ∧ RelV v' (.bool k) ∧ Q v' H' := fun k e => ⟨.bl k, H, I, rfl, by subst e; exact q⟩
  rcases nil_sizes r with ⟨h1, h2⟩ | ⟨h1, h2⟩
  · refine EqBoolInt.of_rcne (SeqAt.RcNeAt.lists (e := fun _ => false) p1.isList p2.isList h1 hu (fun j _ h => absurd h (Nat.not_lt_zero _))) (hq _ ?_)
    rw [h2, h1]; rfl
  · exact EqBoolInt.of_rcne (SeqAt.RcNeAt.lists_lengths p1.isList p2.isList h1 hu) (hq _ (by rw [h2]; rfl))
theorem sqL_new {K : PySem.W.Frag} {H : Hp} {a b : Addr} {o : HO} {xs : List V} (h : SqL K H a xs) (n : H b = none) : SqL K (upd H b o) a xs := by
  have up : ∀ {c : Addr} {u : HO}, H c = some u → upd H b o c = some u := fun e => by rw [upd_ne (ne_of_none e n)]; exact e
  rcases h with (h | ⟨w, h⟩) | h
  · exact .inl (.inl (up h))
  · exact .inl (.inr ⟨w, up h⟩)
  · exact .inr h
section
variable {X : Cx} {Γ : Gc} {W : WX} {a : Expr} {L : E (List D)} {pos p2 : Pos}
def eIsNil (neg : Bool) (L : E (List D)) : E D := eMap (fun ds : List D => .bl (if neg then !ds.isEmpty else ds.isEmpty)) L
theorem nil_read {neg : Bool} (hK : X.K = Γ.K) {σ : L2.St} {H : Hp} {Q : VK} (q : tE Γ W (eIsNil neg L) σ H Q) : tOp (rNil X.K neg) (tL Γ W L) (tLst tNil) σ H Q := by
  obtain ⟨φ, ρ, M, I, h⟩ := q
  refine tX.bind I h fun φ1 ρ1 M1 H1 v ds I1 m1 ⟨p, vs, ev, hs, hz, r⟩ h1 => ?_
  subst ev
  refine ⟨Nat.zero_le _, fun b hb => ?_⟩
  refine ⟨p, b, vs, rfl, rfl, by rw [hK]; exact sqL_new hs hb, SqL.of upd_same, ?_⟩
  have he : vs.isEmpty = ds.isEmpty := by have := isEmpty_ats r; revert this; cases vs.isEmpty <;> cases ds.isEmpty <;> simp
  rw [he]
  exact h1.laid I1 hb (.bl _)
theorem e_nilEq (hu : X.A.units + 65 < cLine) (ha : PE X a (tL Γ W L)) (hK : X.K = Γ.K := by rfl) : PE X (.Compare a [.Eq] [.List [] p2] pos) (tE Γ W (eIsNil false L)) :=
  PEimp (pe_cmpR (op_nilEq (by omega)) ha (pe_lst pa_nil) (nomark _)) fun σ H Q q => nil_read hK q
theorem e_nilNe (hu : X.A.units + 65 < cLine) (ha : PE X a (tL Γ W L)) (hK : X.K = Γ.K := by rfl) : PE X (.Compare a [.NotEq] [.List [] p2] pos) (tE Γ W (eIsNil true L)) :=
  PEimp (pe_cmpR (op_nilNe (by omega)) ha (pe_lst pa_nil) (nomark _)) fun σ H Q q => nil_read hK q
theorem b_nilEq (hu : X.A.units + 65 < cLine) (ha : PE X a (tL Γ W L)) (hK : X.K = Γ.K := by rfl) : PT X (.Compare a [.Eq] [.List [] p2] pos) (tB' Γ W (eB (eIsNil false L))) :=
  PTimp (pt_cmpR (op_nilEq (by omega)) ha (pe_lst pa_nil) (nomark _)) fun σ H Q q => test_read (fun σ H Q q => nil_read hK q) q
theorem b_nilNe (hu : X.A.units + 65 < cLine) (ha : PE X a (tL Γ W L)) (hK : X.K = Γ.K := by rfl) : PT X (.Compare a [.NotEq] [.List [] p2] pos) (tB' Γ W (eB (eIsNil true L))) :=
  PTimp (pt_cmpR (op_nilNe (by omega)) ha (pe_lst pa_nil) (nomark _)) fun σ H Q q => test_read (fun σ H Q q => nil_read hK q) q
end
end Dn
-- DnOrd
/-! Dn: the order of data; sorted. -/
namespace Dn
open PySem PySem.Spec PyProof.Rows L2
def isNoneP : PyData → Bool
  | .none => true
  | _ => false
theorem ne_none {x : PyData} (h : isNoneP x = false) : x ≠ .none := by rintro rfl; cases h
def ordOk (x y : PyData) : Bool := W.alike x y && !isNoneP x && decide (min x.depth y.depth ≤ 60)
theorem ordOk_iff {x y : PyData} (h : ordOk x y = true) : W.alike x y = true ∧ x ≠ .none ∧ min x.depth y.depth ≤ 60 := by
  unfold ordOk at h
  simp only [Bool.and_eq_true, Bool.not_eq_true', decide_eq_true_eq] at h
  exact ⟨h.1.1, ne_none h.1.2, h.2⟩
def gOrd (f : PyData → PyData → Bool) (d e : D) : Option D := match toPy d, toPy e with
  | some x, some y => if ordOk x y = true then some (.bl (f x y)) else none
  | _, _ => none
def rOrd (K : PySem.W.Frag) (f : PyData → PyData → Bool) : R2 := fun x y H Q => ∃ d e : PyData, Dp K H x d ∧ Dp K H y e ∧ ordOk d e = true ∧ Q (.bl (f d e)) H
section
variable {X : Cx} {Γ : Gc} {f : PyData → PyData → Bool}
theorem od_ord (hK : X.K = Γ.K) : OpD Γ (rOrd X.K f) (gOrd f) := by
  intro φ ρ M σ H x y d e z Q I a b g k1 k2
  unfold gOrd at g
  split at g
  · rename_i p q t1 t2
    split at g
    · rename_i o
      cases g
      rw [hK]
      exact ⟨p, q, at_dp a t1, at_dp b t2, o, k1 _ (.bl _)⟩
    · cases g
  · cases g
theorem op_ltN (hu : X.A.units + 65 < cLine) : OpR X (compareOp .Lt) (rOrd X.K fun a b => W.dataLt a b) := fun pins s σ H x y v u Q I rx ry ⟨d, e, hd, he, o, q⟩ => by
  obtain ⟨as, r1⟩ := Dp.reads I d x v hd rx
  obtain ⟨bs, r2⟩ := Dp.reads I e y u he ry
  obtain ⟨o1, o2, o3⟩ := ordOk_iff o
  exact W.lt_data r1 r2 o1 o2 (by omega) ⟨.bl _, H, I, rfl, q⟩
theorem op_leN (hu : X.A.units + 65 < cLine) : OpR X (compareOp .LtE) (rOrd X.K fun a b => !W.dataLt b a) := fun pins s σ H x y v u Q I rx ry ⟨d, e, hd, he, o, q⟩ => by
  obtain ⟨as, r1⟩ := Dp.reads I d x v hd rx
  obtain ⟨bs, r2⟩ := Dp.reads I e y u he ry
  obtain ⟨o1, o2, o3⟩ := ordOk_iff o
  exact W.le_data r1 r2 o1 o2 (by omega) ⟨.bl _, H, I, rfl, q⟩
theorem op_gtN (hu : X.A.units + 65 < cLine) : OpR X (compareOp .Gt) (rOrd X.K fun a b => W.dataLt b a) := fun pins s σ H x y v u Q I rx ry ⟨d, e, hd, he, o, q⟩ => by
  obtain ⟨as, r1⟩ := Dp.reads I d x v hd rx
  obtain ⟨bs, r2⟩ := Dp.reads I e y u he ry
  obtain ⟨o1, o2, o3⟩ := ordOk_iff o
  exact W.gt_data r1 r2 o1 o2 (by omega) ⟨.bl _, H, I, rfl, q⟩
theorem op_geN (hu : X.A.units + 65 < cLine) : OpR X (compareOp .GtE) (rOrd X.K fun a b => !W.dataLt a b) := fun pins s σ H x y v u Q I rx ry ⟨d, e, hd, he, o, q⟩ => by
  obtain ⟨as, r1⟩ := Dp.reads I d x v hd rx
  obtain ⟨bs, r2⟩ := Dp.reads I e y u he ry
  obtain ⟨o1, o2, o3⟩ := ordOk_iff o
  exact W.ge_data r1 r2 o1 o2 (by omega) ⟨.bl _, H, I, rfl, q⟩
abbrev gLtA := orG gLt (gOrd fun a b => W.dataLt a b)
abbrev gLeA := orG gLe (gOrd fun a b => !W.dataLt b a)
abbrev gGtA := orG gGt (gOrd fun a b => W.dataLt b a)
abbrev gGeA := orG gGe (gOrd fun a b => !W.dataLt a b)
variable {W : WX} {a b : Expr} {F G : E D} {pos : Pos}
theorem e_ltA (hu : X.A.units + 65 < cLine) (ha : PE X a (tE Γ W F)) (hb : PE X b (tE Γ W G)) (hK : X.K = Γ.K := by rfl) : PE X (.Compare a [.Lt] [b] pos) (tE Γ W (eOp gLtA F G)) := e_cmp (op_lt.or (op_ltN hu)) (od_lt.or (od_ord hK)) ha hb (nomark _)
theorem e_leA (hu : X.A.units + 65 < cLine) (ha : PE X a (tE Γ W F)) (hb : PE X b (tE Γ W G)) (hK : X.K = Γ.K := by rfl) : PE X (.Compare a [.LtE] [b] pos) (tE Γ W (eOp gLeA F G)) := e_cmp (op_le.or (op_leN hu)) (od_le.or (od_ord hK)) ha hb (nomark _)
theorem e_gtA (hu : X.A.units + 65 < cLine) (ha : PE X a (tE Γ W F)) (hb : PE X b (tE Γ W G)) (hK : X.K = Γ.K := by rfl) : PE X (.Compare a [.Gt] [b] pos) (tE Γ W (eOp gGtA F G)) := e_cmp (op_gt.or (op_gtN hu)) (od_gt.or (od_ord hK)) ha hb (nomark _)
theorem e_geA (hu : X.A.units + 65 < cLine) (ha : PE X a (tE Γ W F)) (hb : PE X b (tE Γ W G)) (hK : X.K = Γ.K := by rfl) : PE X (.Compare a [.GtE] [b] pos) (tE Γ W (eOp gGeA F G)) := e_cmp (op_ge.or (op_geN hu)) (od_ge.or (od_ord hK)) ha hb (nomark _)
end

/-! ### sorted -/
def pyOf (d : D) : PyData := (toPy d).getD .none
def isTupP : PyData → Bool
  | .tuple (_ :: _) => true
  | _ => false
def noTupP : PyData → Bool
  | .tuple _ => false
  | .none => false
  | _ => true
def sortsOk (bs : List PyData) : Bool := bs.all (fun d => bs.all fun e => W.alike d e) && (bs.all isTupP || bs.all noTupP) && bs.all fun d => decide (d.depth ≤ 60)
theorem sortsOk_alike {bs : List PyData} (h : sortsOk bs = true) : W.AllAlike bs := by
  unfold sortsOk at h
  simp only [Bool.and_eq_true, List.all_eq_true] at h
  exact fun d hd e he => h.1.1 d hd e he
theorem sortsOk_kind {bs : List PyData} (h : sortsOk bs = true) : W.Sortable bs := by
  unfold sortsOk at h
  rw [Bool.and_eq_true, Bool.and_eq_true, Bool.or_eq_true] at h
  rcases h.1.2 with h | h
  · refine .inl fun d hd => ?_
    have := List.all_eq_true.mp h d hd
    cases d with
    | tuple l => cases l with
      | nil => cases this
      | cons x r => exact ⟨x, r, rfl⟩
    | _ => cases this
  · refine .inr fun d hd => ?_
    have := List.all_eq_true.mp h d hd
    refine ⟨?_, ?_⟩
    · rintro rfl; cases this
    · rintro xs rfl; cases this
theorem sortsOk_depth {bs : List PyData} (h : sortsOk bs = true) : ∀ d ∈ bs, d.depth ≤ 60 := by
  unfold sortsOk at h
  rw [Bool.and_eq_true] at h
  exact fun d hd => of_decide_eq_true (List.all_eq_true.mp h.2 d hd)
abbrev VD := V × D
abbrev leVD : VD → VD → Bool := W.dataLe false fun b => pyOf b.2
def rSortN (K : PySem.W.Frag) : List V → Hp → VK → Prop := fun vs H Q => ∃ (a : Addr) (bs : List VD), vs = [.ref a] ∧ SqL K H a (bs.map (·.1)) ∧ (∀ b ∈ bs, Dp K H b.1 (pyOf b.2)) ∧ sortsOk (bs.map fun b => pyOf b.2) = true ∧
  ∀ p, H p = none → Q (.ref p) (upd H p (.lst ((bs.mergeSort leVD).map (·.1))))
def rSort1 (K : PySem.W.Frag) : List V → Hp → VK → Prop := fun vs H Q => ∃ (a : Addr) (xs : List V), vs = [.ref a] ∧ SqL K H a xs ∧ xs.length ≤ 1 ∧ ∀ p, H p = none → Q (.ref p) (upd H p (.lst xs))
theorem each_vals : ∀ {bs : List VD} {us : List Value}, Vals (bs.map (·.1)) us → W.EachIs (fun v (b : VD) => RelV b.1 v) us bs
  | [], _, r => by cases r; exact .nil
  | b :: bs, _, r => by
    cases r with
    | cons h t => exact .cons h (each_vals t)
theorem vals_each : ∀ {bs : List VD} {us : List Value}, W.EachIs (fun v (b : VD) => RelV b.1 v) us bs → Vals (bs.map (·.1)) us
  | _, _, .nil => .nil
  | _, _, .cons h t => .cons h (vals_each t)
section
variable {X : Cx}
theorem each_reads {pins : List (Addr × Obj)} {σ : L2.St} {H : Hp} {s : Shared} (I : Inv X pins σ H s) : ∀ {bs : List VD} {us : List Value}, Vals (bs.map (·.1)) us → (∀ b ∈ bs, Dp X.K H b.1 (pyOf b.2)) → W.EachIs (fun v (b : VD) => ∃ as, Reads s.heap v (pyOf b.2) as) us bs
  | [], _, r, _ => by cases r; exact .nil
  | b :: bs, _, r, h => by
    cases r with
    | cons h1 t => exact .cons (Dp.reads I _ _ _ (h b (.head _)) h1) (each_reads I t fun c hc => h c (.tail _ hc))
theorem cr_sortN (hu : X.A.units + 65 < cLine) : CallR X (.builtin "sorted") (rSortN X.K) := by
  intro pins s σ H vs us Q I r h
  obtain ⟨a, bs, rfl, hs, hd, ok, q⟩ := h
  obtain ⟨its, rv, hl, hz⟩ := I.list hs
  rw [Vals.ref1 r]
  rw [List.length_map] at hz
  refine W.sorted_data (β := VD) (R := fun v b => RelV b.1 v) (enc := fun b => pyOf b.2) hl.isList (each_vals rv) (each_reads I rv hd) (sortsOk_alike ok) (sortsOk_kind ok) hz (fun b hb => ?_) fun out hlen e => ?_
  · have := sortsOk_depth ok _ (List.mem_map_of_mem (f := fun b : VD => pyOf b.2) hb)
    omega
  · obtain ⟨ep, he'⟩ := PyProof.Rows.sortedAll_at s.heap its out.toArray
    have hl2 : ((bs.mergeSort leVD).map (·.1)).length ≤ sizeLine := by rw [List.length_map, List.length_mergeSort]; exact hz
    exact ⟨.ref _, upd H (s.heap.objs.size + 1) (.lst ((bs.mergeSort leVD).map (·.1))), I.laid (t' := s.toks) (fun _ _ => PyProof.Rows.sortedAll_old) (Nat.le_succ _) ⟨hl2, out, ep, vals_each e, he'⟩, rfl, q _ (I.hok.fresh (Nat.le_succ _))⟩
theorem cr_sort1 : CallR X (.builtin "sorted") (rSort1 X.K) := by
  intro pins s σ H vs us Q I r h
  obtain ⟨a, xs, rfl, hs, h1, q⟩ := h
  obtain ⟨its, rv, hl, hz⟩ := I.list hs
  rw [Vals.ref1 r]
  have hn := rv.length
  refine Srt.sorted_any hl.isList (by rw [← hn]; exact hz) (fun h2 => absurd h2 (by omega)) fun out hp => ?_
  have eo : out = its := by
    match its, hn with
    | [], _ => exact hp.eq_nil
    | [x], _ => exact hp.eq_singleton
    | _ :: _ :: _, hn => simp only [List.length_cons] at hn; omega
  subst eo
  obtain ⟨ep, he'⟩ := PyProof.Rows.sortedAll_at s.heap out out.toArray
  exact ⟨.ref _, upd H (s.heap.objs.size + 1) (.lst xs), I.laid (t' := s.toks) (fun _ _ => PyProof.Rows.sortedAll_old) (Nat.le_succ _) ⟨hz, out, ep, rv, he'⟩, rfl, q _ (I.hok.fresh (Nat.le_succ _))⟩
end
def sortD (ds : List D) : Option (List D) := if ds.length ≤ 1 then some ds else match toPys ds with
  | some bs => if sortsOk bs = true then some (ds.mergeSort (W.dataLe false pyOf)) else none
  | none => none
def eSorted (L : E (List D)) : E (List D) := eBind L fun ds ρ M => match sortD ds with
  | some es => .ok es ρ M
  | none => .stuck
theorem toPys_map : ∀ {ds : List D} {bs : List PyData}, toPys ds = some bs → bs = ds.map pyOf ∧ ∀ d ∈ ds, toPy d = some (pyOf d)
  | [], _, e => by simp only [toPys] at e; cases e; exact ⟨rfl, fun _ h => nomatch h⟩
  | d :: ds, _, e => by
    simp only [toPys] at e
    split at e
    · rename_i x xs e1 e2
      cases e
      obtain ⟨h1, h2⟩ := toPys_map e2
      have hx : pyOf d = x := by unfold pyOf; rw [e1]; rfl
      refine ⟨by rw [List.map_cons, hx, h1], fun c hc => ?_⟩
      rcases List.mem_cons.mp hc with rfl | hc
      · rw [hx]; exact e1
      · exact h2 c hc
    · cases e
section
variable {X : Cx} {Γ : Gc} {W : WX} {a : Expr} {L : E (List D)} {pos p : Pos}
theorem ats_of {φ : List Addr} {H : Hp} : ∀ {l : List VD}, (∀ b ∈ l, At Γ φ H b.1 b.2) → Ats Γ φ H (l.map (·.1)) (l.map (·.2))
  | [], _ => .nil
  | b :: l, h => .cons (h b (.head _)) (ats_of fun c hc => h c (.tail _ hc))
theorem ats_zip {φ : List Addr} {H : Hp} : ∀ {vs : List V} {ds : List D}, Ats Γ φ H vs ds → ∃ l : List VD, vs = l.map (·.1) ∧ ds = l.map (·.2) ∧ ∀ b ∈ l, At Γ φ H b.1 b.2
  | _, _, .nil => ⟨[], rfl, rfl, fun _ h => nomatch h⟩
  | _, _, .cons (v := v) (d := d) h t => by
    obtain ⟨l, e1, e2, h2⟩ := ats_zip t
    refine ⟨(v, d) :: l, by rw [e1]; rfl, by rw [e2]; rfl, fun b hb => ?_⟩
    rcases List.mem_cons.mp hb with rfl | hb
    · exact h
    · exact h2 b hb
theorem f_sorted (hu : X.A.units + 65 < cLine) (hg : Gl X "sorted") (hm : X.mg "sorted" = none) (ha : PE X a (tL Γ W L)) (hK : X.K = Γ.K := by rfl) (he : starEach [a] X.env = (false, eval a X.env) :: starEach [] X.env := by rfl) : PE X (.Call (.Name "sorted" p) [a] [] pos) (tF Γ W (eSorted L)) :=
  PEimp (pe_callB (r := fun vs H Q => rSort1 X.K vs H Q ∨ rSortN X.K vs H Q) (fun pins s σ H xs us Q I r h => h.elim (cr_sort1 pins s σ H xs us Q I r) (cr_sortN hu pins s σ H xs us Q I r)) hg hm (by decide +kernel) (pa_cons ha pa_nil he) (he := he)) fun σ H Q ⟨φ, ρ, M, I, h⟩ => tX.bind I h fun φ1 ρ1 M1 H1 v ds I1 m1 ⟨q, vs, e, hs, z, r⟩ h1 => by
    subst e
    rw [hK]
    unfold sortD at h1
    by_cases h2 : ds.length ≤ 1
    · rw [if_pos h2] at h1
      exact .inl ⟨q, vs, rfl, hs, by rw [r.length]; exact h2, fun p hp => h1.laid I1 hp (rf_new I1 hp z r)⟩
    · rw [if_neg h2] at h1
      split at h1
      · rename_i es ee
        split at ee
        · rename_i bs eb
          split at ee
          · rename_i ok
            cases ee
            obtain ⟨eb1, eb2⟩ := toPys_map eb
            obtain ⟨l, e1, e2, al⟩ := ats_zip r
            subst e1 e2
            have em : (l.mergeSort leVD).map (·.2) = (l.map (·.2)).mergeSort (PySem.W.dataLe false pyOf) := List.map_mergeSort fun _ _ _ _ => rfl
            refine .inr ⟨q, l, rfl, hs, fun b hb => at_dp (al b hb) (eb2 b.2 (List.mem_map_of_mem hb)), ?_, fun p hp => ?_⟩
            · rw [eb1, List.map_map] at ok; exact ok
            · rw [← em] at h1
              exact h1.laid I1 hp (rf_new I1 hp (by rw [List.length_map, List.length_mergeSort]; rw [List.length_map] at z; exact z) (ats_of fun b hb => al b ((List.mergeSort_perm _ _).mem_iff.mp hb)))
          · cases ee
        · cases ee
      · exact h1.elim
end
end Dn
-- DnDComp
/-! Dn: dict comprehensions. -/
namespace Dn
open PySem PySem.Spec PyProof.Rows L2
/-- the walk of a dict comprehension over anything walked -/
theorem dc_it {J : It} {n : Nat} {G : Hp → Prop} {Y : Nat → Hp → V → Hp → Prop} (w : Walk J n G Y) {g : TG} {tt : TT} {tk tv : TE} {vs : List Nat} {σ : L2.St} {H1 : Hp} {Dd : Addr} {Qd : Hp → Prop} (Pv : Nat → Hp → Prop) (h0 : Pv 0 (upd H1 Dd (.dK []))) (hG : ∀ i H, i ≤ n → Pv i H → G H)
    (hs : ∀ i x H H', i < n → Pv i H → Y i H x H' → g x (wipe σ vs) H' fun σ2 H2 => wipe σ2 vs = wipe σ vs ∧ tt σ2 H2 fun b H3 =>
      if b = true then tk σ2 H3 fun y H4 => tv σ2 H4 fun z H5 => ∃ kvs k, y = kV k ∧ H5 Dd = some (.dK kvs) ∧ kvs.length < sizeLine ∧ Pv (i + 1) (upd H5 Dd (.dK (putK kvs k z))) else Pv (i + 1) H3) (hd : ∀ H, Pv n H → Qd H) :
    ∃ W : Nat → Nat → Hp → Prop, (∃ m, W 0 m (upd H1 Dd (.dK []))) ∧ ∀ i m H, W i m H →
      (J.stop i H ∧ Qd H) ∨ (J.go i H ∧ ∃ Nx : Hp → Prop, (∀ H', Nx H' → ∃ m', m' < m ∧ W (i + 1) m' H') ∧ ∀ x H', J.yld i H x H' → g x (wipe σ vs) H' fun σ2 H2 => wipe σ2 vs = wipe σ vs ∧ tt σ2 H2 fun b H3 =>
        if b = true then tk σ2 H3 fun y H4 => tv σ2 H4 fun z H5 => ∃ kvs k, y = kV k ∧ H5 Dd = some (.dK kvs) ∧ kvs.length < sizeLine ∧ Nx (upd H5 Dd (.dK (putK kvs k z))) else Nx H3) := by
  refine ⟨fun i m H => (i ≤ n ∧ Pv i H) ∧ m + i = n, ⟨n, ⟨Nat.zero_le _, h0⟩, rfl⟩, fun i m H hw => ?_⟩
  obtain ⟨⟨hi, p⟩, em⟩ := hw
  rcases Nat.lt_or_ge i n with hlt | hge
  · right
    refine ⟨w.goes i H hlt (hG i H hi p), Pv (i + 1), fun H' p' => ⟨m - 1, by omega, ⟨hlt, p'⟩, by omega⟩, fun x H' y => ?_⟩
    exact hs i x H H' hlt p (w.yields i H x H' hlt (hG i H hi p) y)
  · left
    have e : i = n := Nat.le_antisymm hi hge
    rw [e] at p ⊢
    exact ⟨w.stops H (hG n H (Nat.le_refl _) p), hd H p⟩
def kvT (K T : E D) : E (Key × D) := eBind K fun k => match keyOf k with
  | some q => eBind T fun v => eOk (q, v)
  | none => eStuck
def putAll (kd : List Key × List D) (ps : List (Key × D)) : List Key × List D := ps.foldl (fun kd p => dPut kd.1 kd.2 p.1 p.2) kd
def eDcomp (vs : List Nat) (S : E (List D)) (pt : Pt) (C : E Bool) (K T : E D) : E (List Key × List D) := eBind S fun ds ρ M => ((compGo vs pt C (kvT K T) ds ρ M).noExc).bind fun ps ρ' M' => .ok (putAll ([], []) ps) (backR ρ ρ' vs) M'
section
variable {X : Cx} {Γ : Gc} {W : WX} {tg it kx vx : Expr} {ifs : List Expr} {scope : Scope} {own : List (Str × Nat)} {S : E (List D)} {pt : Pt} {C : E Bool} {K T : E D} {pos : Pos}
/-- where the turns stand -/
structure DCompW (Γ : Gc) (vs : List Nat) (pt : Pt) (C : E Bool) (K T : E D) (σ : L2.St) (φ1 : List Addr) (ρ1 : Rho) (H1 : Hp) (Dl : Addr) (ds : List D) (fin : List Key × List D) (ρe : Rho) (Me : Mem) (i : Nat) (H' : Hp) : Prop where
  ex : ∃ φi ρi Mi ks ws dv rest, H' Dl = some (.dK (ks.zip ws)) ∧ ks.length = ws.length ∧ ks.length ≤ i ∧ Dl ∉ φi ∧ In Γ φi (wipeR ρi vs) Mi (wipe σ vs) H' ∧ Mono φ1 (wipeR ρ1 vs) (wipe σ vs) H1 φi (wipeR ρi vs) (wipe σ vs) H' ∧
    ¬ Owned (wipeR ρi vs) (wipe σ vs) Dl ∧ Ats Γ φi H' ws dv ∧ compGo vs pt C (kvT K T) (ds.drop i) ρi Mi = .ok rest ρe Me ∧ putAll (ks, dv) rest = fin
theorem kvT_ok {ρ ρ' : Rho} {M M' : Mem} {p : Key × D} (h : kvT K T ρ M = .ok p ρ' M') : ∃ k ρ1 M1, K ρ M = .ok k ρ1 M1 ∧ keyOf k = some p.1 ∧ T ρ1 M1 = .ok p.2 ρ' M' := by
  unfold kvT eBind at h
  cases e : K ρ M with
  | ok k ρ1 M1 =>
    rw [e] at h
    simp only [R.bind] at h
    cases ek : keyOf k with
    | none => rw [ek] at h; cases h
    | some q =>
      rw [ek] at h
      simp only [eBind] at h
      cases et : T ρ1 M1 with
      | ok v ρ2 M2 =>
        rw [et] at h
        simp only [R.bind, eOk] at h
        cases h
        exact ⟨k, ρ1, M1, rfl, ek, et⟩
      | exc _ _ _ _ => rw [et] at h; cases h
      | stuck => rw [et] at h; cases h
  | exc _ _ _ _ => rw [e] at h; cases h
  | stuck => rw [e] at h; cases h
theorem put_len (ks : List Key) (dv : List D) (q : Key) (x : D) : (dPut ks dv q x).1.length ≤ ks.length + 1 := by
  unfold dPut
  split
  · exact Nat.le_succ _
  · rw [List.length_append]; exact Nat.le_refl _
theorem dcomp_read {wi : TI} (hi : ∀ σ H R, tI Γ W S σ H R → wi σ H R) (hv : ∀ j, j ∈ pt.slots → j ∈ own.map (·.2)) : ∀ (σ : L2.St) (H : Hp) (Q : VK), tFd Γ W (eDcomp (own.map (·.2)) S pt C K T) σ H Q → tDc wi (tP Γ pt) (tB' Γ W0 C) (tE Γ W0 K) (tE Γ W0 T) (own.map (·.2)) σ H Q := by
  intro σ H Q ⟨φ, ρ, M, I, h⟩
  refine hi _ _ _ (tX.bind I h fun φ1 ρ1 M1 H1 J ds I1 m1 rw h1 => ?_)
  intro Dl hD
  generalize hvs : own.map (·.2) = vs at h1 hv ⊢
  cases eg : (compGo vs pt C (kvT K T) ds ρ1 M1).noExc with
  | exc _ _ _ _ => exfalso; cases u : compGo vs pt C (kvT K T) ds ρ1 M1 <;> rw [u] at eg <;> cases eg
  | stuck => rw [eg] at h1; exact h1.elim
  | ok ps ρe Me =>
    rw [eg] at h1
    have eg' := noExc_ok eg
    obtain ⟨hz, G, Y, wk, g0, gs, yl⟩ := rw
    have start : DCompW Γ vs pt C K T σ φ1 ρ1 H1 Dl ds (putAll ([], []) ps) ρe Me 0 (upd H1 Dl (.dK [])) :=
      ⟨φ1, ρ1, M1, [], [], [], ps, upd_same, rfl, Nat.le_refl _, I1.notIn hD, (I1.wipe _).new hD, Mono.new hD, (I1.wipe _).notOwned hD, .nil, eg', rfl⟩
    refine dc_it (G := G) (Y := Y) wk (DCompW Γ vs pt C K T σ φ1 ρ1 H1 Dl ds (putAll ([], []) ps) ρe Me) start (fun i H' _ cw => ?_) (fun i x H' H2 hlt cw y => ?_) fun H' cw => ?_
    · obtain ⟨φi, ρi, Mi, ks, ws, dv, rest, hp, hl, hk, nD, Ii, mi, no, r, eq, ea⟩ := cw.ex
      exact gs _ (Mono.wipe.trans mi).sta
    · obtain ⟨φi, ρi, Mi, ks, ws, dv, rest, hp, hl, hk, nD, Ii, mi, no, r, eq, ea⟩ := cw.ex
      rw [List.drop_eq_getElem_cons hlt] at eq
      obtain ⟨ρt, eb, b, ρ2, M2, ec, hT, hF⟩ := compGo_step eq
      obtain ⟨lay, at1⟩ := yl i H' x H2 _ (List.getElem?_eq_getElem hlt) y (gs _ (Mono.wipe.trans mi).sta)
      have hp2 : H2 Dl = some (.dK (ks.zip ws)) := by
        rcases lay with rfl | ⟨q, ys, e, rfl⟩
        · exact hp
        · rw [upd_ne (ne_of_none hp e)]; exact hp
      refine ⟨φi, wipeR ρi _, Mi, _, ρt, lay.inn Ii, at1 φi mi.pre mi.pers, eb, fun σ2 I2 m2 k2 l2 => ?_⟩
      have hw : wipe σ2 vs = wipe σ vs := by
        rw [← wipe_wipe (σ := σ)]
        exact wipe_eq l2 fun j hj => k2 j fun z => hj (hv j z)
      have m12 : Mono φi (wipeR ρi vs) (wipe σ vs) H' φi ρt σ2 H2 := lay.mono.trans m2
      refine ⟨hw, φi, ρt, Mi, I2, ?_⟩
      rw [ec]
      intro φ3 H3 b' I3 m3 e3
      obtain rfl : b' = b := e3
      have m13 := m12.trans m3
      have kp : ∀ {φ4 : List Addr} {ρ4 : Rho} {H4 : Hp}, Mono φi (wipeR ρi vs) (wipe σ vs) H' φ4 ρ4 σ2 H4 → H4 Dl = some (.dK (ks.zip ws)) ∧ Dl ∉ φ4 ∧ ¬ Owned ρ4 σ2 Dl := fun m =>
        ⟨m.keep Dl _ hp nt_dk nD no, fun z => m.fresh Dl z nD _ hp nt_dk, fun z => (m.shr Dl z).elim no fun q => q _ hp nt_dk⟩
      cases b' with
      | false =>
        obtain ⟨hp3, n3, no3⟩ := kp m13
        rw [if_neg Bool.false_ne_true]
        have a1 := I3.wipe vs
        rw [hw] at a1
        have a2 := Mono.wipe (φ := φ3) (ρ := ρ2) (σ := σ2) (H := H3) (vs := vs)
        rw [hw] at a2
        exact ⟨φ3, ρ2, M2, ks, ws, dv, rest, hp3, hl, Nat.le_succ_of_le hk, n3, a1, (mi.trans m13).trans a2, fun z => no3 (owned_wipe (by rw [hw]; exact z)), r.mono m13.pre m13.pers, hF rfl, ea⟩
      | true =>
        rw [if_pos rfl]
        obtain ⟨p', ρ4, M4, ys, et, er, ex⟩ := hT rfl
        obtain ⟨kd, ρ3, M3, ek, eq1, ev⟩ := kvT_ok et
        refine ⟨φ3, ρ2, M2, I3, ?_⟩
        rw [ek]
        intro φ4 H4 y4 I4 m4 a4
        refine ⟨φ4, ρ3, M3, I4, ?_⟩
        rw [ev]
        intro φ5 H5 z5 I5 m5 a5
        have m15 := (m13.trans m4).trans m5
        obtain ⟨hp5, n5, no5⟩ := kp m15
        have sf : Soft (H5 Dl) := .inr ⟨_, hp5⟩
        obtain ⟨ws', w1, w2, w3⟩ := put_at (q := p'.1) hl a5 (r.mono m15.pre m15.pers)
        refine ⟨ks.zip ws, p'.1, key_at a4 eq1, hp5, ?_, ?_⟩
        · rw [List.length_zip, ← hl, Nat.min_self]; omega
        · rw [w1]
          have a1 := (I5.poke (o := .dK ((dPut ks dv p'.1 p'.2).1.zip ws')) sf n5 no5).wipe vs
          rw [hw] at a1
          have a2 := Mono.wipe (φ := φ5) (ρ := ρ4) (σ := σ2) (H := H5) (vs := vs)
          rw [hw] at a2
          have hlen := put_len ks dv p'.1 p'.2
          exact ⟨φ5, ρ4, M4, _, ws', _, ys, upd_same, w2, by omega, n5, a1, ((mi.trans m15).trans a2).late (.none hD) nt_dk ⟨_, hp5⟩, fun z => no5 (owned_wipe (by rw [hw]; exact z)), w3.mono (Pre.refl _) (poke_pers sf), er, by rw [← ea, ex]; rfl⟩
    · obtain ⟨φi, ρi, Mi, ks, ws, dv, rest, hp, hl, hk, nD, Ii, mi, no, r, eq, ea⟩ := cw.ex
      rw [List.drop_length] at eq
      cases eq
      have hlen' : ρe.length = ρ1.length := by
        have := Ii.len
        rw [wipe_length, wipeR_length, I1.len] at this
        exact this.symm
      have U := In.unwipe I1 Ii mi
      have V := Mono.unwipe I1 Ii mi
      rw [backR_wipe hlen'] at U V
      have ea' : (ks, dv) = putAll ([], []) ps := ea
      refine h1 φi H' _ U V ⟨Dl, ws, rfl, .none hD, nD, fun ⟨j, c, ej, sj⟩ => ?_, by rw [← ea']; exact hp, by rw [← ea']; exact hl, by rw [← ea']; exact r⟩
      by_cases hj : j ∈ vs
      · rw [backR_in hlen' hj] at ej
        exact I1.notOwned hD ⟨j, c, ej, sj⟩
      · rw [backR_out hj] at ej
        exact no ⟨j, c, by rw [wipeR_out hj]; exact ej, by rw [wipe_not hj]; exact sj⟩
/-- {k: v for t in it if c} -/
theorem f_dcomp (hc : X.calm = true) (hN : X.N.Nodup) (hi : PI X tg it (tI Γ W S)) (ok : BlkOk X.N X.env.scope scope own)
    (hg : ∀ (s : Shared) (H : Hp) (C : Addr) (cl : List (Str × Addr)) (fp : List Addr), PG (X.blk s H scope (compEnvC scope cl C X.env) fp) tg (tP Γ pt))
    (ht : ∀ (s : Shared) (H : Hp) (Ca : Addr) (cl : List (Str × Addr)) (fp : List Addr), PTs (X.blk s H scope (compEnvC scope cl Ca X.env) fp) ifs (tB' Γ W0 C))
    (hk : ∀ (s : Shared) (H : Hp) (C : Addr) (cl : List (Str × Addr)) (fp : List Addr), PE (X.blk s H scope (compEnvC scope cl C X.env) fp) kx (tE Γ W0 K))
    (he : ∀ (s : Shared) (H : Hp) (C : Addr) (cl : List (Str × Addr)) (fp : List Addr), PE (X.blk s H scope (compEnvC scope cl C X.env) fp) vx (tE Γ W0 T))
    (hv : ∀ j, j ∈ pt.slots → j ∈ own.map (·.2)) (hs : ∀ x, foldedSetIterable it X.env x = pure x := by intro _; rfl) :
    PE X (.DictComp kx vx [⟨tg, it, ifs, 0⟩] scope pos) (tFd Γ W (eDcomp (own.map (·.2)) S pt C K T)) := PEimp (pe_dc hc hN hi ok hg ht hk he hs) (dcomp_read (fun _ _ _ q => q) hv)
end
end Dn
-- DnGd
/-! Dn: promises of defs that are entered while no repr is under way. -/
namespace Dn
open PySem PySem.Spec PyProof.Rows L2
/-- no list or tuple is being written -/
abbrev Clr (A : Around) : Prop := A.guards = some []
/-- as FnOk, for calls under which no repr is under way -/
structure FnG (P : Program) (w : World) (K : PySem.W.Frag) (mg : Str → Option Value) (base : Heap) (k : Nat) (f : Addr) (fd : FuncData) (ps : List Str) (sp : Sp) : Prop where
  many : ∀ {vs H Q E}, sp vs H Q E → vs.length = ps.length
  goes : ∀ {A : Around} {outer : List Env} {s : Shared} {H : Hp} {args : Args} {us : List Value} {vs : List V} {Q : VK} {E : XK}, Clr A → Room k A → Env0 P w K mg base A outer s H → BindsTo s fd args (ps.zip us) → Vals vs us → sp vs H Q E →
    codeAny (model P w) A (.call (.ref f) args) (CR (L2.CX P w) outer P w H s Q E) s
section
variable {P : Program} {w : World} {K : PySem.W.Frag} {mg : Str → Option Value} {base : Heap} {J : Hp → Prop} {stab : ∀ H p o, H p = none ∨ Soft (H p) → J H → J (upd H p o)}
theorem FnG.of {k : Nat} {f : Addr} {fd : FuncData} {ps : List Str} {sp : Sp} (F : FnOk P w K mg base (L2.CX P w) k f fd ps sp) : FnG P w K mg base k f fd ps sp :=
  ⟨F.len _ _ _ _, fun _ hr e0 hb r h => F.run _ _ _ _ _ _ _ _ _ hr e0 hb r h⟩
theorem FnG.up {j k : Nat} {f : Addr} {fd : FuncData} {ps : List Str} {sp : Sp} (F : FnG P w K mg base j f fd ps sp) (h : j ≤ k) : FnG P w K mg base k f fd ps sp :=
  ⟨F.many, fun gd hr e0 hb r q => F.goes gd (hr.mono h) e0 hb r q⟩
theorem FnG.told {k n : Nat} {f : Addr} {fd : FuncData} {ps : List Str} {Γ : Gc} {G G' : Fn} (F : FnG P w K mg base k f fd ps (spG Γ n G)) (h : Told G G') : FnG P w K mg base k f fd ps (spG Γ n G') := by
  have im : ∀ {vs H Q E}, spG Γ n G' vs H Q E → spG Γ n G vs H Q E := fun {vs H Q E} ⟨φ, M, ds, I, r, hn, q⟩ => by
    refine ⟨φ, M, ds, I, r, hn, ?_⟩
    have ht := h ds M
    cases e : G' ds M with
    | stuck => rw [e] at q; exact q.elim
    | ok d ρ M' => rw [e] at q ht; rw [ht (fun z => nomatch z)]; exact q
    | exc n t ρ M' => rw [e] at q ht; rw [ht (fun z => nomatch z)]; exact q
  exact ⟨fun q => F.many (im q), fun gd hr e0 hb r q => F.goes gd hr e0 hb r (im q)⟩
/-- a def by its body, run where no repr is under way -/
theorem fnClrC {x qual : Str} {st : Stmt} {f : Addr} {fd : FuncData} {N ps : List Str} {k : Nat} {B : FS} (F : Fun K x qual st f fd) (S : FnScope N ps (defScope st))
    (hbody : ∀ (cdv : Value) (A : Around) (outer : List Env) (s : Shared) (H : Hp) (E : XK), fd.code = cdv → Clr A → Room k (A.deeper (envOfC qual (defScope st) s.heap.objs.size f cdv)) →
      Takes (cxOf (L2.CX P w) P w K mg base N qual (defScope st) f cdv A outer s H E) (fun c d _ H => E c d H) → PassesOwn (model P w) (cxOf (L2.CX P w) P w K mg base N qual (defScope st) f cdv A outer s H E).A (cxOf (L2.CX P w) P w K mg base N qual (defScope st) f cdv A outer s H E).env (cxOf (L2.CX P w) P w K mg base N qual (defScope st) f cdv A outer s H E).xe →
      PSs (cxOf (L2.CX P w) P w K mg base N qual (defScope st) f cdv A outer s H E) (defBody st) (tS ⟨K, mg, J, stab⟩ (fun c d _ H => E c d H) B)) :
    FnG P w K mg base (k + 1) f fd ps (spG ⟨K, mg, J, stab⟩ ps.length (bodyG N.length B)) := by
  obtain ⟨oc, od, kV, doc, pm, an, cdv, ct, osl, efd, lk, hcd⟩ := F.ex
  have cnt : ∀ {vs H Q E}, spG ⟨K, mg, J, stab⟩ ps.length (bodyG N.length B) vs H Q E → vs.length = ps.length := fun ⟨_, _, _, _, r, hn, _⟩ => r.length.trans hn
  refine ⟨cnt, fun {A outer s H args us vs Q E} gd hr e0 hb r hsp => ?_⟩
  subst efd
  have old : ∀ b o, base.get? b = some o → s.heap.get? b = some o := fun b o q => (e0.bs b o q).1
  have vl := cnt hsp
  have kinds : ∀ q ∈ ps.zip us, (defScope st).names.lookup q.1 = some .local ∨ ((defScope st).names.lookup q.1 = some .cell ∧ ((cellsFrom (s.heap.objs.size + 1) (defScope st).names []).lookup q.1).isSome = true) := by
    rintro ⟨n, v⟩ hq
    have hn := S.par n (List.of_mem_zip hq).1
    exact hn.imp id fun z => ⟨z, PySem.W.cellsFrom_some _ _ _ (.inl z)⟩
  have kin := e0.mod.kin.keeps old
  refine codeAny_call_function hr.depth (kin _ _ lk) rfl S.co S.gen rfl (PySem.W.codeRec_of kin hcd) (hb _ _ _ _ ?_)
  refine wpAny_newFunctionEnv_cells S.kind kinds fun env ee s1 x => ?_
  subst ee
  refine ⟨(e0.mod.nolimit.keeps old).keeps x.toInCall.keep, codeAny_func ?_⟩
  obtain ⟨φ, M, ds, I, ra, hn, h⟩ := hsp
  have body := hbody cdv A outer s H E rfl gd (hr.deeper _) (takes_of rfl rfl rfl rfl) (passes_of rfl)
  obtain ⟨n1, n2, n3⟩ := ats_ix ra N.length rfl
  have no : ∀ p, ¬ Owned (startR N.length ds) (L2.start N vs) p := fun p ⟨i, o, e, _⟩ => n2 i o e
  have ent : tS ⟨K, mg, J, stab⟩ (fun c d _ H => E c d H) B { nx := fun _ H' => Q .non H', rt := Q } (L2.start N vs) H := by
    refine ⟨φ, startR N.length ds, M, ⟨n3, n1, fun i o e => (n2 i o e).elim, fun i j a b p e => (n2 i a e).elim, I.rl, I.nd, I.mem, I.j⟩, ?_⟩
    unfold bodyG at h
    cases eB : B (startR N.length ds) M with
    | nx ρ' M' => rw [eB] at h; exact fun φ' H' σ' I' m' => h φ' H' _ I'.bare (m'.bare no) .non
    | ret d ρ' M' => rw [eB] at h; exact fun φ' H' σ' v I' m' a => h φ' H' v I'.bare (m'.bare no) a
    | exc n t ρ' M' => rw [eB] at h; exact fun φ' H' σ' x v c I' m' hc hx a => h φ' H' x v c I'.bare (m'.bare no) hc hx a
    | brk _ _ => rw [eB] at h; exact h.elim
    | cnt _ _ => rw [eB] at h; exact h.elim
    | stuck => rw [eB] at h; exact h.elim
  refine wpAny_mono (body.run [] s1 (L2.start N vs) H _ (inv_start S hr.hd e0 vl r x) ent) (fun fl s' hs => ?_) fun e s' hs => hs
  cases fl with
  | next =>
    obtain ⟨σ', H', I2, q⟩ := hs
    exact ⟨.non, H', I2.os, I2.bare, I2.base, I2.hok, rfl, q⟩
  | ret u =>
    obtain ⟨v, σ', H', I2, rv, q⟩ := hs
    exact ⟨v, H', I2.os, I2.bare, I2.base, I2.hok, rv, q⟩
  | brk => obtain ⟨_, _, _, q⟩ := hs; exact q.elim
  | cont => obtain ⟨_, _, _, q⟩ := hs; exact q.elim
theorem fnClr {x qual : Str} {st : Stmt} {f : Addr} {fd : FuncData} {N ps : List Str} {k : Nat} {B : FS} (F : Fun K x qual st f fd) (S : FnScope N ps (defScope st))
    (hbody : ∀ (cdv : Value) (A : Around) (outer : List Env) (s : Shared) (H : Hp) (E : XK), Clr A → Room k (A.deeper (envOfC qual (defScope st) s.heap.objs.size f cdv)) →
      Takes (cxOf (L2.CX P w) P w K mg base N qual (defScope st) f cdv A outer s H E) (fun c d _ H => E c d H) → PassesOwn (model P w) (cxOf (L2.CX P w) P w K mg base N qual (defScope st) f cdv A outer s H E).A (cxOf (L2.CX P w) P w K mg base N qual (defScope st) f cdv A outer s H E).env (cxOf (L2.CX P w) P w K mg base N qual (defScope st) f cdv A outer s H E).xe →
      PSs (cxOf (L2.CX P w) P w K mg base N qual (defScope st) f cdv A outer s H E) (defBody st) (tS ⟨K, mg, J, stab⟩ (fun c d _ H => E c d H) B)) :
    FnG P w K mg base (k + 1) f fd ps (spG ⟨K, mg, J, stab⟩ ps.length (bodyG N.length B)) :=
  fnClrC F S fun cdv A outer s H E _ => hbody cdv A outer s H E
end
section
variable {X : Cx} {Γ : Gc} {W : WX} {k n : Nat} {f : Addr} {fd : FuncData} {ps : List Str} {G : Fn} {x : Str} {p pos : Pos} {e : Expr} {es : List Expr} {L : E (List D)}
theorem run_clr {pins : List (Addr × Obj)} {σ : L2.St} {H : Hp} {s : Shared} {Q : VK} {us bs : List Value} {kw : List (Str × Value)} {vs : List V} {sp : Sp} (tk : Takes X W) (F : FnG X.prog X.w X.K X.mg X.base k f fd ps sp) (gd : Clr X.A) (hr : Room k X.A)
    (hb : bs.length = ps.length → BindsTo s fd ⟨us, kw⟩ (ps.zip bs)) (I : Inv X pins σ H s) (r : Vals vs bs) (h : sp vs H Q (WE W σ)) : wpAny (model X.prog X.w) X.A (call (.ref f) us kw) (EP X pins σ Q) X.xe s := by
  refine wpAny_call (codeAny_mono (F.goes gd hr I.env0 (hb (r.length.symm.trans (F.many h))) r h) fun res s' hq => ?_)
  cases res with
  | error e => exact passAt tk σ pins H s e s' I hq
  | ok fl => cases fl with
    | ret u => exact I.after hq
    | _ => exact hq.elim
/-- f(e, ..) -/
theorem e_do (gd : Clr X.A) (tk : Takes X W) (F : FnG X.prog X.w X.K X.mg X.base k f fd ps (spG Γ n G)) (hr : Room k X.A) (hg : Gl X x) (hm : X.mg x = some (.ref f)) (hk : PySem.W.keepIn X.K (.ref f) = true) (hb : Binds X.K fd ps [])
    (ha : PA X (e :: es) (tA Γ W L)) (hdb : (x == ("__debug__" : Str)) = false := by decide) (he : starEach (e :: es) X.env = (false, eval e X.env) :: starEach es X.env := by rfl) (hpl : (backTo pos (starEach es X.env)).any (·.1) = false := by rfl) :
    PE X (.Call (.Name x p) (e :: es) [] pos) (tE Γ W (eCall n G L)) := by
  refine ⟨fun pins s σ H Q I ⟨φ, ρ, M, J, h⟩ => ?_⟩
  refine wpAny_Call_Name_kw (ld_glob I hg hm ?_ hdb)
  have step := ha.run pos pins s σ H (fun vs H1 => ∃ φ1 ρ1 M1 ds, In Γ φ1 ρ1 M1 σ H1 ∧ Ats Γ φ1 H1 vs ds ∧ ds.length = n ∧ Out Γ W σ (RD Γ) φ1 ρ1 H1 Q (callG G ds ρ1 M1)) I (tX.bind J h fun φ1 ρ1 M1 H1 vs ds I1 m1 r h1 => by
    split at h1
    · rename_i hn; exact ⟨φ1, ρ1, M1, ds, I1, r, hn, h1⟩
    · exact h1.elim)
  refine PySem.W.callWith_K (h₀ := X.base) I.ok.mod.kin hk (thn step fun us s2 ⟨vs, H2, I2, r, φ1, ρ1, M1, ds, J1, ra, hn, h1⟩ => ⟨I2.kIn, ?_⟩) he hpl
  exact run_clr tk F gd hr (fun hl => by have b := hb s2 us I2.kIn (by rw [List.append_nil]; exact hl); rw [List.append_nil] at b; exact b) I2 r (call_read J1 ra hn h1)
/-- f(k=e, ..) -/
theorem e_doK {ks : List Str} {idx : List Nat} {kws : List Keyword} (gd : Clr X.A) (tk : Takes X W) (F : FnG X.prog X.w X.K X.mg X.base k f fd ps (spG Γ n G)) (hr : Room k X.A) (hg : Gl X x) (hm : X.mg x = some (.ref f)) (hk : PySem.W.keepIn X.K (.ref f) = true) (hb : KwB X.K fd ps ks idx)
    (ha : PK X kws (tA Γ W L)) (hl : ks.length = kws.length := by rfl) (hall : (backToKw pos (keywordEach kws X.env)).all (·.1.isSome) = true := by rfl) (hks : (backToKw pos (keywordEach kws X.env)).filterMap (·.1) = ks := by rfl)
    (hpl : ((backTo pos (starEach [] X.env)).any (·.1) || (backToKw pos (keywordEach kws X.env)).any (·.1.isNone)) = false := by rfl) (hdb : (x == ("__debug__" : Str)) = false := by decide) :
    PE X (.Call (.Name x p) [] kws pos) (tE Γ W (eCallK n idx ks.length G L)) := by
  refine ⟨fun pins s σ H Q I ⟨φ, ρ, M, J, h⟩ => ?_⟩
  refine wpAny_Call_Name_kw (ld_glob I hg hm ?_ hdb)
  have step := ha.run pos pins s σ H (fun vs H1 => ∃ φ1 ρ1 M1 ds, In Γ φ1 ρ1 M1 σ H1 ∧ Ats Γ φ1 H1 vs ds ∧ (ds.length = ks.length ∧ (pickL idx ds).length = n) ∧ Out Γ W σ (RD Γ) φ1 ρ1 H1 Q (callG G (pickL idx ds) ρ1 M1)) I (tX.bind J h fun φ1 ρ1 M1 H1 vs ds I1 m1 r h1 => by
    split at h1
    · rename_i hn; exact ⟨φ1, ρ1, M1, ds, I1, r, hn, h1⟩
    · exact h1.elim)
  refine PySem.W.callWith_KW0 (h₀ := X.base) I.ok.mod.kin hk hall (thn step fun ws s2 ⟨zs, H2, I2, rz, φ1, ρ1, M1, ds, J1, ra, hn, h1⟩ => ⟨I2.kIn, ?_⟩) hpl
  rw [hks]
  exact run_clr tk F gd hr (fun _ => hb s2 ws I2.kIn (by rw [← rz.length, ra.length]; exact hn.1)) I2 (pick_vals rz idx) (call_read J1 (pick_ats ra idx) hn.2 h1)
/-- the defs that may be handed in -/
def TabG (X : Cx) (Γ : Gc) (k : Nat) (tb : Str → Option (Nat × Fn)) : Prop := ∀ n m G, tb n = some (m, G) → ∃ f fd ps, X.mg n = some (.ref f) ∧ FnG X.prog X.w X.K X.mg X.base k f fd ps (spG Γ m G) ∧ PySem.W.keepIn X.K (.ref f) = true ∧ Binds X.K fd ps []
/-- p(e, ..) where the parameter p holds a def -/
theorem e_doL {i : Nat} {tb : Str → Option (Nat × Fn)} (gd : Clr X.A) (tk : Takes X W) (T : TabG X Γ k tb) (hr : Room k X.A) (hv : PE X (.Name x p) (tVar i)) (ha : PA X (e :: es) (tA Γ W L)) (hM : X.mg = Γ.mg := by rfl)
    (he : starEach (e :: es) X.env = (false, eval e X.env) :: starEach es X.env := by rfl) (hpl : (backTo pos (starEach es X.env)).any (·.1) = false := by rfl) :
    PE X (.Call (.Name x p) (e :: es) [] pos) (tE Γ W (eCallL i tb L)) := by
  refine ⟨fun pins s σ H Q I ⟨φ, ρ, M, J, h⟩ => ?_⟩
  unfold eCallL at h
  split at h
  case h_2 => exact h.elim
  rename_i nm en
  split at h
  case h_2 => exact h.elim
  rename_i m G' et
  obtain ⟨f', fd', ps', hm, F, hk, hb⟩ := T _ _ _ et
  obtain ⟨v, sv, av⟩ := J.val i _ en
  have ev : v = .ref f' := by
    cases av with
    | @fn a _ ha' => rw [← hM, hm] at ha'; cases ha'; rfl
  subst ev
  refine wpAny_Call_Name_kw (thn (hv.run pins s σ H (fun v H1 => v = .ref f' ∧ H1 = H) I ⟨.ref f', sv, rfl, rfl⟩) fun u s1 ⟨v, H1, I1, r1, ev, eH⟩ => ?_)
  subst ev eH
  obtain rfl : u = Value.ref f' := r1
  have step := ha.run pos pins s1 σ H1 (fun vs H2 => ∃ φ1 ρ1 M1 ds, In Γ φ1 ρ1 M1 σ H2 ∧ Ats Γ φ1 H2 vs ds ∧ ds.length = m ∧ Out Γ W σ (RD Γ) φ1 ρ1 H2 Q (callG G' ds ρ1 M1)) I1 (tX.bind J h fun φ1 ρ1 M1 H2 vs ds I2 m1 r h1 => by
    split at h1
    · rename_i hn; exact ⟨φ1, ρ1, M1, ds, I2, r, hn, h1⟩
    · exact h1.elim)
  refine PySem.W.callWith_K (h₀ := X.base) I.ok.mod.kin hk (thn step fun us s2 ⟨vs, H2, I2, r, φ1, ρ1, M1, ds, J1, ra, hn, h1⟩ => ⟨I2.kIn, ?_⟩) he hpl
  exact run_clr tk F gd hr (fun hl => by have b := hb s2 us I2.kIn (by rw [List.append_nil]; exact hl); rw [List.append_nil] at b; exact b) I2 r (call_read J1 ra hn h1)
end
end Dn
-- DnRepr
/-! Dn: repr of data. -/
namespace Dn
open PySem PySem.Spec PyProof.Rows L2
mutual
theorem toPy_noDict : ∀ {d : D} {x : PyData}, toPy d = some x → x.hasDict = false
  | .non, _, e => by simp only [toPy] at e; cases e; rfl
  | .bl b, _, e => by simp only [toPy] at e; cases e; rfl
  | .int i, _, e => by simp only [toPy] at e; cases e; rfl
  | .str x, _, e => by simp only [toPy] at e; cases e; rfl
  | .tup ds, _, e => by
    simp only [toPy] at e
    obtain ⟨xs, e1, e2⟩ := Option.map_eq_some_iff.mp e
    subst e2
    rw [PyData.hasDict]
    exact toPys_noDict e1
  | .lst ds, _, e => by
    simp only [toPy] at e
    obtain ⟨xs, e1, e2⟩ := Option.map_eq_some_iff.mp e
    subst e2
    rw [PyData.hasDict]
    exact toPys_noDict e1
  | .dct _ _, _, e => by simp [toPy] at e
  | .ref _, _, e => by simp [toPy] at e
  | .fn _, _, e => by simp [toPy] at e
theorem toPys_noDict : ∀ {ds : List D} {xs : List PyData}, toPys ds = some xs → PyData.hasDictAll xs = false
  | [], _, e => by simp only [toPys] at e; cases e; rfl
  | d :: ds, _, e => by
    simp only [toPys] at e
    split at e
    · rename_i x xs e1 e2
      cases e
      rw [PyData.hasDictAll, toPy_noDict e1, toPys_noDict e2]; rfl
    · cases e
end
def shownOk (x : PyData) : Bool := x.showable && decide (x.shown.length ≤ sizeLine) && decide (x.depth ≤ 60)
theorem shownOk_iff {x : PyData} (h : shownOk x = true) : x.showable = true ∧ x.shown.length ≤ sizeLine ∧ x.depth ≤ 60 := by
  unfold shownOk at h
  rw [Bool.and_eq_true, Bool.and_eq_true] at h
  exact ⟨h.1.1, of_decide_eq_true h.1.2, of_decide_eq_true h.2⟩
def rShow (K : PySem.W.Frag) : List V → Hp → VK → Prop := fun vs H Q => ∃ (v : V) (d : PyData), vs = [v] ∧ Dp K H v d ∧ shownOk d = true ∧ d.hasDict = false ∧ Q (.str d.shown) H
section
variable {X : Cx} {Γ : Gc} {W : WX} {a : Expr} {es : List Expr} {L : E (List D)} {p pos : Pos}
theorem cr_show (gd : Clr X.A) (hu : X.A.units + 65 < cLine) : CallR X (.builtin "repr") (rShow X.K) := by
  intro pins s σ H vs us Q I r h
  obtain ⟨v, d, rfl, hd, ok, nd, q⟩ := h
  obtain ⟨u, rfl, ru⟩ := vals1 r
  obtain ⟨as, rd⟩ := Dp.reads I d v u hd ru
  obtain ⟨o1, o2, o3⟩ := shownOk_iff ok
  have fin : ∀ (h' : Heap) (t tk : Nat), (∀ b o, s.heap.get? b = some o → h'.get? b = some o) → EP X pins σ Q (.str d.shown t) { s with heap := h', toks := tk } := fun h' t tk hk => ⟨.str _, H, I.kept hk, ⟨_, rfl⟩, q⟩
  cases rd with
  | none => exact PySem.P.repr_of_none (fin _ _ _ fun _ _ e => e)
  | bool b => exact PySem.P.repr_of_bool (fin _ _ _ fun _ _ e => e)
  | int i t => exact PySem.P.repr_of_int (by simpa [PyData.showable] using o1) (fin _ _ _ fun _ _ e => e)
  | str x t => exact PySem.P.repr_of_str (fin _ _ _ fun _ _ e => e) o2
  | list h1 h2 h3 h4 => exact repr_of_reads' (.list h1 h2 h3 h4) o1 (fun z => by rw [nd] at z; cases z) gd (by omega) (fun _ _ e => e) fin o2
  | tuple h1 h2 h3 h4 => exact repr_of_reads' (.tuple h1 h2 h3 h4) o1 (fun z => by rw [nd] at z; cases z) gd (by omega) (fun _ _ e => e) fin o2
  | dict h1 h2 h3 h4 h5 => rw [PyData.hasDict] at nd; cases nd
def fRepr : List D → Option D
  | [d] => match toPy d with
    | some x => if shownOk x = true then some (.str x.shown) else none
    | none => none
  | _ => none
theorem e_repr (gd : Clr X.A) (hu : X.A.units + 65 < cLine) (hg : Gl X "repr") (hm : X.mg "repr" = none) (ha : PA X [a] (tA Γ W L)) (hK : X.K = Γ.K := by rfl) (he : starEach [a] X.env = (false, eval a X.env) :: starEach [] X.env := by rfl) : PE X (.Call (.Name "repr" p) [a] [] pos) (tE Γ W (eBind L fun ds => optE (fRepr ds))) :=
  callV (f := .builtin "repr") (fun ht => pe_callB (cr_show gd hu) hg hm (by decide +kernel) ht (he := he)) (fun φ H vs ds z Q r e k => by
    unfold fRepr at e
    split at e
    · split at e
      · rename_i x ex
        split at e
        · rename_i ok
          cases e
          cases r with
          | cons h t =>
            cases t
            exact ⟨_, x, rfl, by rw [hK]; exact at_dp h ex, ok, toPy_noDict ex, k _ (.str _)⟩
        · cases e
      · cases e
    · cases e) ha
end
end Dn
-- DnEnd
/-! Dn: the end of a law. -/
namespace Dn
open PySem PySem.Spec PyProof.Rows L2 LamX
section
variable {P : Program} {w : World} {K : PySem.W.Frag} {mg mb : Str → Option Value} {a : Addr} {cs : List (Addr × Addr)} {s₁ : Shared} {vs : List Value} {ns : List Int}
abbrev tabObj : Obj := { cls := .none, data := .fields #[] }
abbrev lstObj (vs : List Value) : Obj := { cls := .type "list", data := .seq vs.toArray }
/-- what is tracked at the entry: the tables; the script, where the head does not know it -/
def headHp (K : PySem.W.Frag) (a : Addr) (cs : List (Addr × Addr)) (vs : List Value) (ns : List Int) : Hp := fun b =>
  if b ∈ cs.map (·.2) then some (.tbl #[]) else if b = a ∧ K.lookup a = none then some (.frz (lstObj vs) (.lst (ns.map V.int))) else none
theorem headHp_tab {b : Addr} (h : b ∈ cs.map (·.2)) : headHp K a cs vs ns b = some (.tbl #[]) := if_pos h
theorem headHp_some {b : Addr} {u : HO} (h : headHp K a cs vs ns b = some u) : (b ∈ cs.map (·.2) ∧ u = .tbl #[]) ∨ (b = a ∧ K.lookup a = none ∧ u = .frz (lstObj vs) (.lst (ns.map V.int))) := by
  unfold headHp at h
  by_cases h1 : b ∈ cs.map (·.2)
  · rw [if_pos h1] at h; cases h; exact .inl ⟨h1, rfl⟩
  · rw [if_neg h1] at h
    by_cases h2 : b = a ∧ K.lookup a = none
    · rw [if_pos h2] at h; cases h; exact .inr ⟨h2.1, h2.2, rfl⟩
    · rw [if_neg h2] at h; cases h
theorem headHp_obj {b : Addr} {u : HO} {o : Obj} (hT : ∀ p ∈ cs, s₁.heap.get? p.2 = some tabObj) (ha : s₁.heap.get? a = some (lstObj vs)) (h : headHp K a cs vs ns b = some u) (e : s₁.heap.get? b = some o) : o = tabObj ∨ o = lstObj vs := by
  rcases headHp_some h with ⟨h1, _⟩ | ⟨h1, _, _⟩
  · obtain ⟨p, hp, ep⟩ := List.mem_map.mp h1
    subst ep
    rw [hT p hp] at e
    exact .inl (Option.some.inj e).symm
  · subst h1
    rw [ha] at e
    exact .inr (Option.some.inj e).symm
/-- an object of another form is not tracked -/
theorem headHp_free {b : Addr} {o : Obj} (hT : ∀ p ∈ cs, s₁.heap.get? p.2 = some tabObj) (ha : s₁.heap.get? a = some (lstObj vs)) (e : s₁.heap.get? b = some o) (n1 : o ≠ tabObj) (n2 : o ≠ lstObj vs) : headHp K a cs vs ns b = none := by
  cases q : headHp K a cs vs ns b with
  | none => rfl
  | some u =>
    rcases headHp_obj hT ha q e with z | z
    · exact absurd z n1
    · exact absurd z n2
/-- the end of a law: its def's promise, met at the entry -/
theorem law_clr {k : Nat} {fa : Addr} {fd : FuncData} {x : Str} {sp : Sp} (KX : K.In s₁.heap) (hns : s₁.heap.Ns mainGlobals mg) (hb : s₁.heap.Ns builtinsNs mb) (hbb : ∀ x : Str, x ≠ "__name__" → mb x = bootBuiltins x) (hlim : s₁.heap.NoLimit) (hg : s₁.gens = #[])
    (hT : ∀ p ∈ cs, s₁.heap.get? p.2 = some tabObj) (nT : ∀ p ∈ cs, K.lookup p.2 = none) (C : ∀ p ∈ cs, PySem.W.CodeHd s₁.heap p.1 p.2)
    (hbm : ∃ (bm : Addr) (ob : Obj), mg "__builtins__" = some (.ref bm) ∧ bm ≠ builtinsNs ∧ s₁.heap.get? bm = some ob ∧ ob.cls = .type "module" ∧ ob.dict = some builtinsNs ∧ ob.data = .plain)
    (ha : s₁.heap.get? a = some (lstObj vs)) (hi : IntsAre vs ns) (hl : ns.length ≤ sizeLine) (hr : Room k callerA)
    (F : ∀ base : Heap, K.In base → base.Ns mainGlobals mg → (∀ p ∈ cs, TabB base mg p.1 p.2) → FnG P w K mg base k fa fd [x] sp) (hbind : ∀ (s : Shared) (u : Value), BindsTo s fd ⟨[u], []⟩ [(x, u)])
    (hsp : ∀ H : Hp, (∀ p ∈ cs, H p.2 = some (.tbl #[])) → Fz K H a (ns.map V.int) → sp [.ref a] H (fun v _ => v = .bl true) fun _ _ _ => False) :
    codeAny (model P w) callerA (.call (.ref fa) ⟨[.ref a], []⟩) (fun r s' => r = .ok (.ret (.bool true)) ∧ OldK s₁.heap s'.heap ∧ s'.os = s₁.os ∧ AllBare s'.gens) s₁ := by
  have rv := vals_ints hi
  have inT : ∀ {p : Addr × Addr}, p ∈ cs → p.2 ∈ cs.map (·.2) := fun hp => List.mem_map.mpr ⟨_, hp, rfl⟩
  generalize eH : headHp K a cs vs ns = H
  have someH : ∀ {b : Addr} {u : HO}, H b = some u → (b ∈ cs.map (·.2) ∧ u = .tbl #[]) ∨ (b = a ∧ K.lookup a = none ∧ u = .frz (lstObj vs) (.lst (ns.map V.int))) := fun h => by subst eH; exact headHp_some h
  have freeH : ∀ {b : Addr} {o : Obj}, s₁.heap.get? b = some o → o ≠ tabObj → o ≠ lstObj vs → H b = none := fun e n1 n2 => by subst eH; exact headHp_free hT ha e n1 n2
  have tabH : ∀ p ∈ cs, H p.2 = some (.tbl #[]) := fun p hp => by subst eH; exact headHp_tab (inT hp)
  have low : ∀ {b : Addr} {o : Obj}, s₁.heap.get? b = some o → H b = none → (hidT s₁.heap H).get? b = some o := fun e n => hidT_get e n
  -- by its class, by its content
  have byCls : ∀ {b : Addr} {o : Obj}, s₁.heap.get? b = some o → o.cls ≠ .none → o.cls ≠ .type "list" → H b = none := fun e n1 n2 => freeH e (fun z => n1 (by rw [z])) fun z => n2 (by rw [z])
  have byDict : ∀ {b : Addr} {o : Obj} {es : Array DictEntry} {ep : Nat}, s₁.heap.get? b = some o → o.data = .dict es ep → H b = none := fun e d => freeH e (fun z => by rw [z] at d; cases d) fun z => by rw [z] at d; cases d
  have lowNs : ∀ {b : Addr} {m : Str → Option Value}, s₁.heap.Ns b m → (hidT s₁.heap H).Ns b m := fun ⟨o, es, ep, e, d, r⟩ => ⟨o, es, ep, low e (byDict e d), d, r⟩
  have lowK : K.In (hidT s₁.heap H) := fun b o e => low (KX b o e) (by
    cases q : H b with
    | none => rfl
    | some u =>
      exfalso
      rcases someH q with ⟨z, _⟩ | ⟨z, z2, _⟩
      · obtain ⟨p, hp, ep⟩ := List.mem_map.mp z
        rw [← ep, nT p hp] at e; cases e
      · rw [z, z2] at e; cases e)
  have okH : HOk P w H s₁.heap := fun b u q => by
    rcases someH q with ⟨z, rfl⟩ | ⟨rfl, _, rfl⟩
    · obtain ⟨p, hp, rfl⟩ := List.mem_map.mp z
      exact hT p hp
    · exact ⟨ha, by rw [List.length_map]; exact hl, vs, _, rv, ha⟩
  have seqH : Fz K H a (ns.map V.int) := by
    cases hk : K.lookup a with
    | some o =>
      have e := KX a o hk
      rw [ha] at e
      cases e
      exact .inr (.inr ⟨_, vs.toArray, _, hk, rfl, rfl, rfl, by rw [List.size_toArray, hi.length]; exact hl, by simpa using rv⟩)
    | none =>
      refine .inl ⟨lstObj vs, ?_⟩
      subst eH
      have nt : a ∉ cs.map (·.2) := fun z => by
        obtain ⟨p, hp, ep⟩ := List.mem_map.mp z
        have e := hT p hp
        rw [ep, ha] at e
        cases e
      exact (if_neg nt).trans (if_pos ⟨rfl, hk⟩)
  have tb : ∀ p ∈ cs, TabB (hidT s₁.heap H) mg p.1 p.2 := fun p hp => by
    have ep := hT p hp
    refine ⟨?_, ?_, fun z => ?_⟩
    · obtain ⟨o, us, file, tf, flags, tg, inF, text, tt, e, c, rest⟩ := C p hp
      exact ⟨o, us, file, tf, flags, tg, inF, text, tt, low e (byCls e (by rw [c]; exact fun z => nomatch z) (by rw [c]; decide)), c, rest⟩
    · obtain ⟨bm, ob, b1, b2, b3, b4, b5, b6⟩ := hbm
      refine ⟨bm, ob, b1, b2, fun q => ?_, fun q => ?_, low b3 (byCls b3 (by rw [b4]; exact fun z => nomatch z) (by rw [b4]; decide)), b4, b5, b6⟩
      · obtain ⟨o, es, en, e, hd, _⟩ := hns
        rw [q, e] at b3
        cases b3
        rw [hd] at b6
        cases b6
      · rw [q, ep] at b3
        cases b3
        cases b6
    · obtain ⟨o, es, en, e, hd, _⟩ := hns
      rw [z, ep] at e
      cases e
      cases hd
  have md : L2.Mod K mg (hidT s₁.heap H) := ⟨lowK, lowNs hns, ⟨mb, lowNs hb, hbb⟩, hlim.imp fun _ z => ⟨lowNs z.1, z.2⟩⟩
  have e0 : Env0 P w K mg (hidT s₁.heap H) callerA [] s₁ H := ⟨rfl, md, fun b o e => of_hidT e, Nat.le_of_eq (hidT_size _ _), trivial, fun b q => (List.not_mem_nil q).elim, okH, .of_eq hg⟩
  refine codeAny_mono ((F _ lowK (lowNs hns) tb).goes rfl hr e0 (hbind s₁ (.ref a)) (us := [.ref a]) (.cons (show RelV (.ref a) (.ref a) from rfl) .nil) (hsp H tabH seqH)) fun r s' h => ?_
  cases r with
  | error e =>
    obtain ⟨_, _, _, _, _, _, _, _, _, _, _, _, z⟩ := h
    exact z.elim
  | ok fl => cases fl with
    | ret u =>
      obtain ⟨v, H', os, bare, un, ok', rv', q⟩ := h
      obtain rfl : v = .bl true := q
      obtain rfl : u = Value.bool true := rv'
      have grown : ∀ p ∈ cs, ∃ more : Array Value, s'.heap.get? p.2 = some { cls := .none, data := .fields more } := fun p hp => by
        obtain ⟨more, z⟩ := un.tbls p.2 #[] (tabH p hp)
        exact ⟨_, ok' p.2 _ z⟩
      have still : ∀ b o, b ∉ cs.map (·.2) → s₁.heap.get? b = some o → s'.heap.get? b = some o := fun b o nb e => by
        cases q : H b with
        | none => exact un.keep b o e q (fun z => nomatch z) fun z => nomatch z
        | some u =>
          rcases someH q with ⟨z, _⟩ | ⟨_, _, rfl⟩
          · exact absurd z nb
          · have f1 := (okH b _ q).1
            have f2 := (ok' b _ (un.frzs b _ _ q)).1
            rw [f1] at e; cases e
            exact f2
      refine ⟨rfl, ⟨fun b o e => ?_, fun b o e => ?_⟩, os, bare⟩
      · by_cases nb : b ∈ cs.map (·.2)
        · obtain ⟨p, hp, rfl⟩ := List.mem_map.mp nb
          obtain ⟨more, hm⟩ := grown p hp
          have eo := hT p hp
          rw [eo] at e
          cases e
          exact .inr (.inl ⟨((C p hp).tab eo).isCodeTable, rfl, #[], more, rfl, by rw [Array.empty_append]; exact hm⟩)
        · exact .inl (still b o nb e)
      · by_cases nb : b ∈ cs.map (·.2)
        · obtain ⟨p, hp, rfl⟩ := List.mem_map.mp nb
          exact (grown p hp).elim fun m hm => ⟨_, hm⟩
        · exact ⟨o, still b o nb e⟩
    | _ => exact h.elim
end
/-- a law's def that tells True meets what is asked at the entry -/
theorem start_ok {K : PySem.W.Frag} {mg : Str → Option Value} {J : Hp → Prop} {stab : ∀ H p o, H p = none ∨ Soft (H p) → J H → J (upd H p o)} {G : Fn} {H : Hp} {a : Addr} {ns : List Int} (hJ : J H) (hf : Fz K H a (ns.map V.int)) (hz : ns.length ≤ sizeLine)
    (hG : ∃ ρ M, G [.lst (ns.map D.int)] [] = .ok (.bl true) ρ M) : spG ⟨K, mg, J, stab⟩ 1 G [.ref a] H (fun v _ => v = .bl true) fun _ _ _ => False := by
  have allI : ∀ ns : List Int, Ats ⟨K, mg, J, stab⟩ [] H (ns.map V.int) (ns.map D.int) := by
    intro ns
    induction ns with
    | nil => exact .nil
    | cons n ns ih => exact .cons (.int n) ih
  obtain ⟨ρ, M, e⟩ := hG
  refine ⟨[], [], [.lst (ns.map D.int)], ⟨rfl, fun i d e => by simp at e, fun i d e => by simp at e, fun i j a b p e => by simp at e, rfl, .nil, fun i o e => by simp at e, hJ⟩, .cons (.lst hf (by rw [List.length_map]; exact hz) (allI ns)) .nil, rfl, ?_⟩
  rw [e]
  exact fun φ' H' v _ _ at' => by cases at'; rfl
/-- what a law gives at the head's heap -/
def LawClr (l : PySem.W.OpenLaw) (w : World) (K : PySem.W.Frag) (k n : Nat) (x : Str) (mg : Str → Option Value) (fa : Addr) (h : Heap) : Prop :=
  ∃ (fd : FuncData) (cs : List (Addr × Addr)) (sp : Sp), (∀ p ∈ cs, h.get? p.2 = some tabObj ∧ K.lookup p.2 = none ∧ PySem.W.CodeHd h p.1 p.2) ∧ (∀ (s : Shared) (u : Value), BindsTo s fd ⟨[u], []⟩ [(x, u)]) ∧
    (∀ (H : Hp) (a : Addr) (ns : List Int), ns.length ≤ n → (∀ z ∈ ns, Builtin.Int.intBits z ≤ 1048576) → (∀ p ∈ cs, H p.2 = some (.tbl #[])) → Fz K H a (ns.map V.int) → sp [.ref a] H (fun v _ => v = .bl true) fun _ _ _ => False) ∧
    ∀ base : Heap, K.In base → base.Ns mainGlobals mg → (∀ p ∈ cs, TabB base mg p.1 p.2) → FnG l.prog w K mg base k fa fd [x] sp
theorem walk_clr {l : PySem.W.OpenLaw} {n k : Nat} {q : Program} {loose : List Str} {XP : (Str → Option Value) → Heap → Prop} {YP : World → Heap → Prop} {d : DefRec} {K : Params → PySem.W.Frag} {x : Str}
    (hn : l.most = some n) (hn2 : n ≤ sizeLine) (hdf : d.params.defaults = []) (hr : Room k callerA) (hY : ∀ (w : World) (h : Heap), YP w h → (K w.params).In h)
    (F : ∀ (w : World) (mg : Str → Option Value) (fa : Addr) (h : Heap), YP w h → (K w.params).In h → h.Ns mainGlobals mg → mg d.name = some (.ref fa) →
      (∀ (nm : Str) (g : Addr), ((recsOf q).any fun e => e.name == nm) = true → mg nm = some (.ref g) → OwnTab (K w.params) g h) → LawClr l w (K w.params) k n x mg fa h) :
    PySem.W.WalkO q loose XP YP l.row.toRowW d [] (fun f vs => PySem.call f vs) := by
  refine Att.attach_callB hn hdf fun w s₀ s₁ mg mb fa o pm cd doc a vs ns G Y ho hd hcd hmg hobj hints hlen hbits hg => ?_
  have KX := hY w _ Y
  have tabs : ∀ (nm : Str) (g : Addr), ((recsOf q).any fun e => e.name == nm) = true → mg nm = some (.ref g) → OwnTab (K w.params) g s₁.heap := by
    intro nm g hany hm c P o1 fd1 e dd us sl k1 k2 k3 k4 k5
    obtain ⟨r, hr, hr2⟩ := List.any_eq_true.mp hany
    obtain ⟨a', o', fd', c', P', h1, h2, h3, h4, h5, ⟨oc, vc, e1, _, e3, e4⟩, hP⟩ := G.T.tab r hr
    rw [beq_iff_eq.mp hr2, hm] at h1
    cases h1
    have g1 := KX _ _ k1
    rw [h2] at g1; cases g1
    rw [h3] at k2; cases k2
    rw [h4] at k3; cases k3
    have g2 := KX _ _ k4
    rw [e1] at g2; cases g2
    cases e3
    rw [e4] at k5; cases k5
    exact hP
  obtain ⟨fd, cs, sp, hT, hb, hsp, hF⟩ := F w mg fa _ Y KX G.T.g hmg tabs
  exact law_clr KX G.T.g G.T.b G.T.builtins G.T.nolimit hg (fun p hp => (hT p hp).1) (fun p hp => (hT p hp).2.1) (fun p hp => (hT p hp).2.2) G.T.bmain hobj hints (Nat.le_trans hlen hn2) hr hF hb fun H hH hS => hsp H a ns hlen hbits hH hS
end Dn
-- DnRev
/-! Dn: x[::-1] of lists. -/
namespace Dn
open PySem PySem.Spec PyProof.Rows L2
section
variable {X : Cx} {Γ : Gc} {W : WX} {e : Expr} {L : E (List D)} {k : Nat} {p1 p2 p3 pos : Pos}
theorem Ats.rev {φ : List Addr} {H : Hp} {vs : List V} {ds : List D} (r : Ats Γ φ H vs ds) : Ats Γ φ H vs.reverse ds.reverse := Ats.reverse r
theorem f_rev (ha : PE X e (tL Γ W L)) (hK : X.K = Γ.K := by rfl) : PE X (.Subscript e (.Slice none none (some (.UnaryOp .USub (.Constant (.int 1) k p1) p2)) p3) pos) (tF Γ W (eMap List.reverse L)) :=
  PEimp (pe_revL ha) fun σ H Q ⟨φ, ρ, M, I, h⟩ => tX.bind I h fun φ1 ρ1 M1 H1 v ds I1 m1 ⟨q, vs, ev, hs, hz, r⟩ h1 => by
    subst ev
    rw [hK]
    exact ⟨q, vs, rfl, hs, fun p hp => (h1 : Out Γ W σ (RF Γ) φ1 ρ1 H1 Q (.ok ds.reverse ρ1 M1)).laid I1 hp (rf_new I1 hp (by rw [List.length_reverse]; exact hz) (Ats.rev r))⟩
end
end Dn
-- DnGen
/-! Dn: what a printed text leans on. -/
namespace Dn
open PySem PySem.Spec PyProof.Rows L2
section
variable {X : Cx} {Γ : Gc} {W : WX} {x : Str} {pos : Pos}
theorem e_glob {v : V} {u : Value} {d : D} (hg : Gl X x) (hm : X.mg x = some u) (r : RelV v u) (a : ∀ φ H, At Γ φ H v d) (hd : (x == ("__debug__" : Str)) = false := by decide) : PE X (.Name x pos) (tE Γ W (eOk d)) := e_c (pe_glob hg hm r hd) a
theorem e_gI {i : Int} (hg : Gl X x) (hm : ∃ t, X.mg x = some (.int i t)) (hd : (x == ("__debug__" : Str)) = false := by decide) : PE X (.Name x pos) (tE Γ W (eOk (.int i))) := by
  obtain ⟨t, hm⟩ := hm
  exact e_glob hg hm (v := .int i) ⟨t, rfl⟩ (fun _ _ => .int i) hd
theorem e_gS {i : Str} (hg : Gl X x) (hm : ∃ t, X.mg x = some (.str i t)) (hd : (x == ("__debug__" : Str)) = false := by decide) : PE X (.Name x pos) (tE Γ W (eOk (.str i))) := by
  obtain ⟨t, hm⟩ := hm
  exact e_glob hg hm (v := .str i) ⟨t, rfl⟩ (fun _ _ => .str i) hd
end
/-- a def of the text, where it stands -/
structure DefAt (K : PySem.W.Frag) (mg : Str → Option Value) (x : Str) (st : Stmt) (ps : List Str) where
  f : Addr
  fd : FuncData
  fn : Fun K x x st f fd
  hm : mg x = some (.ref f)
  bd : Binds K fd ps []
/-- a def that is handed in -/
theorem e_gF {X : Cx} {Γ : Gc} {W : WX} {x : Str} {pos : Pos} {st : Stmt} {ps : List Str} (hg : Gl X x) (d : DefAt X.K X.mg x st ps) (hM : X.mg = Γ.mg := by rfl) (hd : (x == ("__debug__" : Str)) = false := by decide) : PE X (.Name x pos) (tE Γ W (eOk (.fn x))) :=
  e_glob hg d.hm (v := .ref d.f) rfl (fun _ _ => .fn (by rw [← hM]; exact d.hm)) hd
/-- {k: v, ..} -/
theorem fd_d {X : Cx} {Γ : Gc} {W : WX} {pos : Pos} {keys : List (Option Expr)} {values : List Expr} {l : List (E D × E D)} (h : PPs X pos keys values (l.map fun p => (tE Γ W p.1, tE Γ W p.2))) (hall : keys.all (·.isSome) = true := by rfl) (hl : keys.length = values.length := by rfl) (h0 : keys ≠ [] := by intro z; cases z) (h15 : keys.length ≤ 15 := by decide) : PE X (.Dict keys values pos) (tFd Γ W (eDisp l)) :=
  fd_disp h hall hl h0 (pe_disp h hall hl h0 h15)
/-- a class of exceptions of the text, where it stands -/
structure ClsAt (K : PySem.W.Frag) (mg : Str → Option Value) (x : Str) (Rt fI : Addr) where
  C : Addr
  cc : XcC K C Rt fI
  hm : mg x = some (.ref C)
end Dn
-- DnParC
/-! Dn: a, b = e, f where a name is captured by a block: by way of a tuple. -/
namespace Dn
open PySem PySem.Spec PyProof.Rows L2
def gsJ : List Nat → TGs
  | [] => gNil
  | i :: js => gCons (gName i) (gsJ js)
theorem gsJ_run {H : Hp} {Q : L2.St → Hp → Prop} : ∀ {js : List Nat} {vs : List V} {σ : L2.St}, vs.length = js.length → Q (setVs js vs σ) H → gsJ js vs σ H Q
  | [], [], _, _, q => ⟨rfl, q⟩
  | [], _ :: _, _, h, _ => by simp at h
  | _ :: _, [], _, h, _ => by simp at h
  | i :: js, v :: vs, σ, h, q => ⟨v, vs, rfl, gsJ_run (js := js) (by simpa using h) q⟩
section
variable {X : Cx} {Γ : Gc} {W : WX} {es ts : List Expr} {L : E (List Itm)} {js : List Nat} {pt pt2 pos : Pos} {kt k2 : Nat}
theorem j_nil : PGs X [] (gsJ []) := pgs_nil
theorem j_cons {i : Nat} {x : Str} {p : Pos} (h1 : PG X (.Name x p) (gName i)) (h2 : PGs X ts (gsJ js)) (hs : (assignEach (.Name x p :: ts) X.env).map (·.2) = assign (.Name x p) X.env :: (assignEach ts X.env).map (·.2) := by rfl) : PGs X (.Name x p :: ts) (gsJ (i :: js)) := pgs_cons h1 h2 hs
theorem s_parC (hc : X.calm = true) (hg : PGs X ts (gsJ js)) (ha : PA X es (tM Γ W L)) (hk : js.length ≤ 1000 := by decide) (hK : X.K = Γ.K := by rfl) (hn : (assignEach ts X.env).length = js.length := by rfl) (hst : (assignEach ts X.env).findIdx? (·.1) = none := by rfl)
    (hs : swapsWithSole [.Tuple ts kt pt] (.Tuple es k2 pt2) pos.line X.env = pure false := by rfl) (hw : swappedStores [.Tuple ts kt pt] (.Tuple es k2 pt2) X.env = pure none := by rfl) (h1 : (assignEach [.Tuple ts kt pt] X.env).map (·.2) = [assign (.Tuple ts kt pt) X.env] := by rfl) :
    PS X (.Assign [.Tuple ts kt pt] (.Tuple es k2 pt2) pos) (tS Γ W (sPar js L)) :=
  PSimp (ps_asg (pe_tup ha) (pg_tup hc hg hn hst) hs hw h1) fun Dn σ H ⟨φ, ρ, M, I, h⟩ => tX.thn0 I h fun φ1 ρ1 M1 H1 vs is I1 m1 ⟨ps, r⟩ h2 => by
    cases e : setIs js is ρ1 with
    | none => rw [e] at h2; exact h2.elim
    | some ρ' =>
      rw [e] at h2
      obtain ⟨hl, I2, m2⟩ := r.store I1 m1 e
      have hz : vs.length ≤ sizeLine := by rw [hl, sizeLine_eq]; omega
      exact ⟨hz, fun p hp => ⟨p, vs, rfl, SqT.of upd_same, hl, gsJ_run hl (h2 φ1 _ _ (I2.new hp) (m2.trans (Mono.new hp)))⟩⟩
end
end Dn
-- DnHeard
/-! Dn: heard(lambda: ..) by where its def stands; defs that hold lambdas. -/
namespace Dn
open PySem PySem.Spec PyProof.Rows L2 LamX
section
variable {X : Cx} {Γ : Gc} {W : WX}
theorem e_heardD {T : List (Addr × Str)} {x a w : Str} {st : Stmt} {c P : Addr} {k j : Nat} {Ng : List Str} {kn : Str → Bool} {cs : List CD} {h₀ : ExceptHandler} {hds : List ExceptHandler} {l : List (Value × Wsh)} {x1}
    {params : Arguments} {body : Expr} {scope : Scope} {B : E D} {p lpos pos pc p1 p2 pt p3 p8 : Pos} (d : DefAt X.K X.mg x st [a])
    (hst : defBody st = [.Try [.Return (some (.Tuple [.Constant (.str w) j pc, .Call (.Name a p1) [] [] p2] x1 pt)) p3] (h₀ :: hds) [] [] p8]) (hg : Gl X x) (Sg : FnScope Ng [a] (defScope st)) (hNg : Ng[0]? = some a) (hva : Vis (defScope st) a)
    (xs : ∀ n C, kn n = true → Γ.mg n = some (.ref C) → XcS Γ.K C)
    (hcd : ∀ (cdv : Value) (A : Around) (outer : List Env) (s : Shared) (H : Hp), CDs (cxOf C8.CX0 X.prog X.w X.K X.mg X.base Ng x (defScope st) d.f cdv A outer s H C8.E0) Γ kn (h₀ :: hds) l cs)
    (TB : TabB X.base X.mg c P) (hcode : X.env.code = .ref c) (hmT : (P, X.env.qual ++ "<lambda>") ∈ T) (hu : ∀ p ∈ T, p.1 = P → p.2 = X.env.qual ++ "<lambda>") (hr : Room (k + 2) X.A) (L : LamS X.env.scope scope)
    (hJ : ∀ H, Γ.J H → Tabs T H) (hJ' : ∀ H H1, Γ.J H → ExtN H H1 → Tabs T H1 → Γ.J H1)
    (hbody : ∀ (A : Around) (outer : List Env) (s : Shared) (H : Hp) (E : XK) (f c' : Addr), A.guards = X.A.guards → Room k (A.deeper (lamEnv X scope s.heap.objs.size f c')) → PE (lamCx X A outer s H E scope f c') body (tE Γ (fun cls d _ H => E cls d H) B))
    (hdef : defaultsOf params X.env = ([], []) := by rfl)
    (hbind : ∀ (q : Str) (cl : List (Str × Addr)) (pm cv ctv : Value), bindArgs (PySem.W.kla_fn "<lambda>" q params body scope cl pm cv ctv) ⟨[], []⟩ = pure [] := by intro _ _ _ _ _; rfl) (hK : X.K = Γ.K := by rfl)
    (hdb : (x == ("__debug__" : Str)) = false := by decide) (hd : (a == ("__debug__" : Str)) = false := by decide) (hcd' : (a == ("__classdict__" : Str)) = false := by decide) :
    PE X (.Call (.Name x p) [.Lambda params body scope lpos] [] pos) (tE Γ W (eHeard kn w cs Ng.length B)) := by
  have fn := d.fn
  have bd := d.bd
  obtain ⟨oc, od, kV, doc, pm, an, cdv, ct, osl, e, lk, cd⟩ := fn.ex
  rw [e] at lk bd
  rw [hst] at lk bd
  exact e_heard hg d.hm fn.kp lk cd bd Sg hNg hva xs (hcd cdv) TB hcode hmT hu hr L hdef hbind hbody hJ hJ' hK hdb hd hcd'
end
section
variable {P : Program} {w : World} {K : PySem.W.Frag} {mg : Str → Option Value} {base : Heap}
theorem tabs_stab {T : List (Addr × Str)} : ∀ (H : Hp) (p : Addr) (o : HO), H p = none ∨ Soft (H p) → Tabs T H → Tabs T (upd H p o) := fun H p o h t q hq => by
  have far : ∀ {b : Addr} {u : HO}, H b = some u → (∀ xs, u ≠ .lst xs) → (∀ kv, u ≠ .dK kv) → b ≠ p := fun {b u} e n1 n2 z => by
    subst z
    rcases h with h | ⟨xs, h⟩ | ⟨kv, h⟩
    · rw [h] at e; cases e
    · rw [h] at e; cases e; exact n1 _ rfl
    · rw [h] at e; cases e; exact n2 _ rfl
  obtain ⟨ps, e, tr, code⟩ := t q hq
  refine ⟨ps, by rw [upd_ne (far e (fun _ z => nomatch z) fun _ z => nomatch z)]; exact e, tr, fun pos cv hc => ?_⟩
  obtain ⟨c, ec, hc2⟩ := code pos cv hc
  exact ⟨c, ec, by rw [upd_ne (far hc2 (fun _ z => nomatch z) fun _ z => nomatch z)]; exact hc2⟩
end
end Dn
-- DnSet
/-! Dn: a set of texts made from a tuple or a list, and sorted. -/
namespace Dn
open PySem PySem.Spec PyProof.Rows L2 PySem.Froz
/-- the set at a holds the texts l -/
def SetS (P : Program) (w : World) (h : Heap) (a : Addr) (l : List Str) : Prop :=
  ∃ D : SD, h.get? a = some (sObj "set" D) ∧ TxOk P w D l ∧ l.Nodup ∧ l.length < scanBound ∧ Ris D.2.2.place.toList ∧ (w.params.followText "set-order" = true ∨ D.2.2.led = true)
section
variable {P : Program} {w : World} {A : Around} {E : Value → Shared → Prop} {s : Shared}
theorem tailTx_ris {ep : Nat} {es : Array (Int × Value)} {t : SetTable} {b : Bool} (r : Ris t.place.toList) : Ris (tailTx ep es t b).2.2.place.toList := by
  unfold tailTx
  by_cases c : (!b && t.tooFull) = true
  · rw [if_pos c]; exact relayAll_ris _ _ _
  · rw [if_neg c]; exact r
theorem tailTx_led {ep : Nat} {es : Array (Int × Value)} {t : SetTable} {b : Bool} : (tailTx ep es t b).2.2.led = t.led := by
  unfold tailTx
  by_cases c : (!b && t.tooFull) = true
  · rw [if_pos c]; exact relayAll_led _ _ _
  · rw [if_neg c]
theorem addTx_ris (h : Int) (v : Value) (D : SD) (r : Ris D.2.2.place.toList) : Ris (addTx h v D).2.2.place.toList := by
  refine tailTx_ris ?_
  have r1 := layNew_ris D.2.2 D.1 h v r
  split
  · exact r1
  · exact r1
theorem addTx_led (h : Int) (v : Value) (D : SD) : (addTx h v D).2.2.led = D.2.2.led := by
  refine tailTx_led.trans ?_
  have l1 := layNew_led D.2.2 D.1 h v
  split
  · exact l1
  · exact l1
/-- a text is added -/
theorem setS_add {a : Addr} {l : List Str} {k : Str} {u : Tok} {Q : Bool → Shared → Prop} (R : SetS P w s.heap a l) (room : l.length + 1 < scanBound)
    (hQ : ∀ (b : Bool) (h' : Heap), Heap.SameBut a s.heap h' → SetS P w h' a (if k ∈ l then l else k :: l) → Q b { s with heap := h' }) : wpAny (model P w) A (setAddHashed a (.str k u) (hashStr w k)) Q E s := by
  obtain ⟨D, ho, F, nd, hb, ri, le⟩ := R
  by_cases hk : k ∈ l
  · obtain ⟨es, ep, t⟩ := D
    have hsz : es.size = l.length := F.sz
    have hes : es.size < scanBound := by rw [hsz]; exact hb
    have is : (strKind P w).is k (.str k u) = true := is_str k u
    rw [if_pos hk] at hQ
    unfold setAddHashed setAddHashedIn
    refine wpAny_holding (wpAny_bind (wpAny_setState_of (a := a) ho rfl F.fit ?_))
    dsimp only
    rw [byScan_of rfl hes F.el]
    simp only [↓reduceIte]
    unfold setAddByScan
    refine wpAny_bind (wpAny_bind (wpAny_rule (wpAny_bind (wpAny_setScan_of (knd := strKind P w) (k := k) is ho rfl F.fit F.el ?_))))
    cases hf : List.findIdx? (fun e => (strKind P w).is k e.2) es.toList with
    | none =>
      obtain ⟨e, he, q⟩ := (F.mem k).mp hk
      have := List.findIdx?_eq_none_iff.mp hf e he
      rw [q] at this
      cases this
    | some j => exact wpAny_pure (wpAny_pure (hQ _ s.heap (Heap.SameBut.refl a s.heap) ⟨_, ho, F, nd, hb, ri, le⟩))
  · rw [if_neg hk] at hQ
    refine add_x ho F hk room (hQ _ _ ?_ ⟨_, get_upd _ ho rfl, add_ok u F, List.nodup_cons.mpr ⟨hk, nd⟩, room, addTx_ris _ _ _ ri, le.imp id fun z => (addTx_led _ _ _).trans z⟩)
    exact Heap.SameBut.update _ _ _
theorem SetS.at {h h' : Heap} {a : Addr} {l : List Str} (R : SetS P w h a l) (k : ∀ o, h.get? a = some o → h'.get? a = some o) : SetS P w h' a l := by
  obtain ⟨D, ho, r⟩ := R
  exact ⟨D, k _ ho, r⟩
def addAll (xs : List Str) : List Str := xs.foldl (fun l k => if k ∈ l then l else k :: l) []
theorem addAll_snoc {xs : List Str} {i : Nat} {x : Str} (h : xs[i]? = some x) : addAll (xs.take (i + 1)) = if x ∈ addAll (xs.take i) then addAll (xs.take i) else x :: addAll (xs.take i) := by
  unfold addAll
  rw [List.take_add_one, h, List.foldl_append]
  rfl
theorem addAll_len : ∀ xs : List Str, (addAll xs).length ≤ xs.length := by
  have g : ∀ (xs l : List Str), (xs.foldl (fun l k => if k ∈ l then l else k :: l) l).length ≤ l.length + xs.length := by
    intro xs
    induction xs with
    | nil => intro l; exact Nat.le_refl _
    | cons x xs ih =>
      intro l
      rw [List.foldl_cons, List.length_cons]
      refine Nat.le_trans (ih _) ?_
      split
      · omega
      · rw [List.length_cons]; omega
  intro xs
  have := g xs []
  rw [List.length_nil, Nat.zero_add] at this
  exact this
open PyProof.Rows in
theorem setS_loop {I : Addr} {fp wr : List Addr} {G : Array GenState → Array GenState → Prop} {n : Nat} {Pv : Nat → Value → Prop} {St : Nat → Shared → Prop} {R : Result → Shared → Prop}
    (W : WalksS P w A.in1 I fp wr G n Pv St) (S : Addr) (apart : S ∉ fp) (xs : List Str) (hn : n = xs.length) (room : xs.length + 1 < scanBound) (val : ∀ i v, Pv i v → ∃ k t, xs[i]? = some k ∧ v = .str k t)
    (fin : Shared → Prop) (k : Nat) : ∀ (i : Nat) (s : Shared), n - i = k → i ≤ n → St i s → SetS P w s.heap S (addAll (xs.take i)) →
      (∀ s', Moved (S :: wr) G s s' → SetS P w s'.heap S (addAll xs) → R (.ok (.ret .none)) s') →
      codeAny (model P w) A (.builtin "set.update.loop" ⟨[.ref S, .ref I], []⟩) R s := by
  have off : S ∉ wr := fun z => apart (W.sub _ z)
  have more : ∀ b ∈ wr, b ∈ S :: wr := fun b hb => .tail _ hb
  induction k with
  | zero =>
    intro i s hk hi st hS done
    obtain rfl : i = n := by omega
    refine codeAny_builtin F.entry_set_update_loop ?_
    rw [Around.under_plainId F.plain_set_update_loop _]
    show wpAny _ A.in1 (pyNext (.ref I) >>= _) _ _ s
    refine wpAny_bind (W.done s _ _ st fun s' mv => ?_)
    rw [List.take_of_length_le (Nat.le_of_eq hn.symm)] at hS
    exact wpAny_pure (done s' (mv.mono more) (hS.at fun o e => mv.heap S o off e))
  | succ k ih =>
    intro i s hk hi st hS done
    have lt : i < n := by omega
    refine codeAny_builtin F.entry_set_update_loop ?_
    rw [Around.under_plainId F.plain_set_update_loop _]
    show wpAny _ A.in1 (pyNext (.ref I) >>= _) _ _ s
    refine wpAny_bind (W.item i s _ _ lt st fun v s' hP st' mv => ?_)
    obtain ⟨z, t, hz, rfl⟩ := val i v hP
    have hS' : SetS P w s'.heap S (addAll (xs.take i)) := hS.at fun o e => mv.heap S o off e
    show wpAny _ A.in1 (holding [Value.str z t] (setAdd S (.str z t)) >>= _) _ _ s'
    refine wpAny_bind (wpAny_holding ?_)
    unfold setAdd
    refine wpAny_holding (wpAny_bind ((strKind P w).pyHash (k := z) (is_str z t) ?_))
    have small : (addAll (xs.take i)).length + 1 < scanBound := by
      have a1 := addAll_len (xs.take i)
      have a2 : (xs.take i).length ≤ xs.length := List.length_take_le' ..
      omega
    refine setS_add (s := { s' with toks := s'.toks + 1 }) hS' small fun b h' same hS2 => ?_
    rw [← addAll_snoc hz] at hS2
    refine wpAny_pure ⟨plainId_quiet F.plain_set_update_loop _, ih (i + 1) _ (by omega) lt (W.frame _ s' _ _ st' (Nat.le_succ _) fun b hb o e => ?_) hS2 fun s'' mv2 hS3 => ?_⟩
    · rw [same.2 b (fun q : b = S => apart (by rw [← q]; exact hb))]; exact e
    · refine done s'' (Moved.trans W.gtrans ((mv.mono more).then_heap (Nat.le_succ _) fun b o hb e => ?_) mv2) hS3
      rw [same.2 b (fun q : b = S => hb (by rw [q]; exact .head _))]; exact e
end
end Dn
-- DnSet2
/-! Dn: set(xs) of texts, xs a tuple. -/
namespace Dn
open PySem PySem.Spec PyProof.Rows L2 PySem.Froz
abbrev newSet (w : World) : Obj := { cls := .type "set", dict := none, data := .set #[] 0 (.fresh 0 0 (!w.params.followText "set-order")) }
section
variable {P : Program} {w : World} {A : Around} {E : Value → Shared → Prop} {s : Shared}
theorem setS_new {h : Heap} {a : Addr} (ho : h.get? a = some (newSet w)) : SetS P w h a [] :=
  ⟨(#[], 0, .fresh 0 0 (!w.params.followText "set-order")), ho, .nil rfl, .nil, by decide, .nil, by
    show _ ∨ (!w.params.followText "set-order") = true
    cases w.params.followText "set-order"
    · exact .inr rfl
    · exact .inl rfl⟩
set_option maxHeartbeats 8000000 in
theorem set_of_texts {l : Addr} {items : Array Value} (xs : List Str) {Q : Value → Shared → Prop} (hh : A.handled = none) (hl : s.heap.IsTuple l items) (it : ∀ (i : Nat) (v : Value), items[i]? = some v → ∃ k t, xs[i]? = some k ∧ v = .str k t) (hz : items.size = xs.length) (room : xs.length + 1 < scanBound)
    (h : ∀ (h' : Heap) (tk : Nat), SetS P w h' s.heap.objs.size (addAll xs) → (∀ b o, s.heap.get? b = some o → h'.get? b = some o) → Q (.ref s.heap.objs.size) { s with heap := h', toks := tk }) :
    wpAny (model P w) A (call (.type "set") [.ref l]) Q E s := by
  obtain ⟨c, tl, hmro⟩ := F.called_set.mro
  have hmade := F.called_set.made
  have hsub := F.called_set.sub
  have h1 := F.called_set.notType
  have h2 := F.called_set.canCreate
  have hct := F.typeCall_set_1 (.ref l)
  refine wpAny_call (codeAny_of_tree ?_)
  show wpAny _ _ (callAny (.type "set") _) _ _ _
  refine wpAny_pure ⟨Code.quiet_builtin _ (by decide +kernel), codeAny_builtin F.entry_type_call ?_⟩
  rw [Around.under_plain (weight_type_call_type "set" [.ref l] []) rfl]
  repeat (any_goals (first | assumption | wp_step))
  refine codeAny_mono (code_set_led1 (.ref l) (E := E) (Q₁ := fun obj s₁ => obj = .ref s.heap.objs.size ∧ s₁ = { s with heap := s.heap.push (newSet w) }) ⟨rfl, rfl⟩) fun r s₁ hr => ?_
  match r, hr with
  | .error e, hr => exact hr
  | .ok (.ret obj), hr =>
    obtain ⟨rfl, rfl⟩ := hr
    have made : (s.heap.push (newSet w)).get? s.heap.objs.size = some (newSet w) := Heap.get?_push_size _ rfl
    have hT : Shared.TypeIs { s with heap := s.heap.push (newSet w) } (.ref s.heap.objs.size) "set" := ⟨_, made, rfl⟩
    have hli := F.called_set.init.lookup
    have hbi := F.called_set.init.bind (.ref s.heap.objs.size)
    repeat (any_goals (first | assumption | wp_step))
    refine codeAny_mono (codeAny_call_builtin (R := wants (fun r s₂ => r = .none ∧ ∃ h' tk, s₂ = { s with heap := h', toks := tk } ∧ SetS P w h' s.heap.objs.size (addAll xs) ∧ (∀ b o, s.heap.get? b = some o → h'.get? b = some o)) E) F.called_set.init.plain F.entry_set_init (check_set_init_1 hT ?_)) fun r₂ s₂ hr₂ => ?_
    · obtain ⟨⟨oc, od, odt, os⟩, hol, hcl, nl, hdl⟩ := hl
      dsimp only at hcl hdl
      subst hcl hdl
      have hlS : l < s.heap.objs.size := Heap.lt_size hol
      have hl1 : (s.heap.push (newSet w)).IsTuple l items := ⟨_, Heap.get?_push_of_some _ hol, rfl, nl, rfl⟩
      have hol' := Heap.get?_push_of_some (newSet w) hol
      have hsls := F.sub_tuple_set
      have hslf := F.sub_tuple_frozenset
      have hne : (Value.type "tuple" == Value.type "dict") = false := by decide
      unfold Builtin.«set.__init__» noKeywords Builtin.Frozenset.updateFrom
      generalize hPI : pyIter = PI
      wp_walk
      subst hPI
      refine wpAny_pyIter_tuple hl1 (wpAny_bind (wpAny_runValue ?_))
      have hh3 : A.in1.in1.in1.handled = none := by simp [hh]
      have sz : (s.heap.push (newSet w)).objs.size = s.heap.objs.size + 1 := Heap.size_push ..
      have apart1 : l ≠ (s.heap.push (newSet w)).objs.size := fun z => Nat.ne_of_lt (Nat.lt_succ_of_lt hlS) (z.trans sz)
      have apart2 : s.heap.objs.size ∉ [(s.heap.push (newSet w)).objs.size, l] := by
        rw [sz]
        intro z
        rcases List.mem_cons.mp z with z | z
        · exact Nat.ne_of_lt (Nat.lt_succ_self _) z
        · exact Nat.ne_of_gt hlS (List.mem_singleton.mp z)
      refine setS_loop ((Walks.tuple hh3 _ l apart1 items).toS) s.heap.objs.size apart2 xs hz room it (fun _ => True) (items.size - 0) 0 _ (by omega) (Nat.zero_le _) ⟨⟨_, Heap.get?_push_size _ rfl, rfl, rfl⟩, hl1.push _⟩ ?_ ?_
      · exact setS_new (Heap.get?_push_of_some _ made)
      · intro s' mv hS
        obtain ⟨h', g2, d', tk', os'⟩ := s'
        obtain rfl : g2 = s.gens := mv.gens
        obtain rfl : d' = s.drawn := mv.drawn
        obtain rfl : os' = s.os := mv.os
        show wpAny _ _ _ _ _ _
        refine wpAny_pure ?_
        show wpAny _ _ (ret Value.none) _ _ _
        refine wpAny_pure ⟨rfl, h', tk', rfl, hS, fun b o e => ?_⟩
        have lb := Heap.lt_size e
        refine mv.heap b o (fun z => ?_) (Heap.get?_push_of_some _ (Heap.get?_push_of_some _ e))
        rcases List.mem_cons.mp z with z | z
        · exact Nat.ne_of_lt lb z
        · exact Nat.ne_of_lt (Nat.lt_succ_of_lt lb) ((List.mem_singleton.mp z).trans sz)
    · match r₂, hr₂ with
      | .error e, hr₂ => exact hr₂
      | .ok (.ret r), hr₂ =>
        obtain ⟨rfl, h', tk, rfl, hS, keep⟩ := hr₂
        repeat (any_goals (first | assumption | wp_step))
        exact h _ _ hS keep
end
end Dn
-- DnSet3
/-! Dn: sorted(set(xs)) of texts. -/
namespace Dn
open PySem PySem.Spec PyProof.Rows L2 PySem.Froz
theorem perm_of_sub {α : Type} [DecidableEq α] : ∀ {l m : List α}, l.Nodup → (∀ x ∈ l, x ∈ m) → m.length = l.length → m.Perm l
  | [], [], _, _, _ => .refl _
  | [], _ :: _, _, _, h => by simp at h
  | x :: l, m, nd, sub, len => by
    have hx := sub x (.head _)
    obtain ⟨nx, nd2⟩ := List.nodup_cons.mp nd
    refine (List.perm_cons_erase hx).trans (.cons x (perm_of_sub nd2 (fun y hy => ?_) ?_))
    · exact (List.mem_erase_of_ne (fun e : y = x => nx (e ▸ hy))).mpr (sub y (.tail _ hy))
    · rw [List.length_erase_of_mem hx, len]; rfl
/-- texts in their order -/
def sortS (l : List Str) : List Str := l.mergeSort (PySem.W.dataLe false PyData.str)
theorem str_le (x y : Str) : PySem.W.dataLe false PyData.str x y = decide (x.cps.toList ≤ y.cps.toList) := by
  have := congrFun (congrFun (PySem.W.dataLe_str (β := Str) id) x) y
  exact this
theorem sortS_perm {l m : List Str} (p : l.Perm m) : sortS l = sortS m := by
  have tr : ∀ a b c : Str, PySem.W.dataLe false PyData.str a b = true → PySem.W.dataLe false PyData.str b c = true → PySem.W.dataLe false PyData.str a c = true := fun a b c h1 h2 => by
    rw [str_le, decide_eq_true_eq] at *
    exact List.le_trans h1 h2
  have to : ∀ a b : Str, (PySem.W.dataLe false PyData.str a b || PySem.W.dataLe false PyData.str b a) = true := fun a b => by
    rw [str_le, str_le, Bool.or_eq_true, decide_eq_true_eq, decide_eq_true_eq]
    exact List.le_total _ _
  refine List.Perm.eq_of_pairwise (le := fun a b => PySem.W.dataLe false PyData.str a b = true) (fun a b _ _ h1 h2 => ?_) (List.pairwise_mergeSort tr to l) (List.pairwise_mergeSort tr to m) ((List.mergeSort_perm _ _).trans (p.trans (List.mergeSort_perm _ _).symm))
  rw [str_le, decide_eq_true_eq] at h1 h2
  exact PySem.W.str_of_cps (List.le_antisymm h1 h2)
section
variable {P : Program} {w : World} {A : Around} {E : Value → Shared → Prop} {s : Shared}
theorem txt_vals {D : SD} {l : List Str} (F : TxOk P w D l) (nd : l.Nodup) : ∃ ks : List Str, ks.Perm l ∧ PySem.W.EachIs (fun v (x : Str) => ∃ t, v = .str x t) (D.1.toList.map (·.2)) ks := by
  have g : ∀ es : List (Int × Value), (∀ e ∈ es, ∃ k, (strKind P w).is k e.2 = true) → ∃ ks : List Str, PySem.W.EachIs (fun v (x : Str) => ∃ t, v = .str x t) (es.map (·.2)) ks := by
    intro es
    induction es with
    | nil => exact fun _ => ⟨[], .nil⟩
    | cons e es ih =>
      intro h
      obtain ⟨ks, q⟩ := ih fun e he => h e (.tail _ he)
      obtain ⟨k, hk⟩ := h e (.head _)
      obtain ⟨t, ev⟩ := Value.isStrOf_shape (x := k) (v := e.2) hk
      exact ⟨k :: ks, .cons ⟨t, ev⟩ q⟩
  obtain ⟨ks, q⟩ := g D.1.toList fun e he => (F.el e he).1.imp fun k hk => hk.1
  have len : ks.length = l.length := by rw [← q.length, List.length_map, Array.length_toList]; exact F.sz
  have mem : ∀ {vs : List Value} {ks : List Str}, PySem.W.EachIs (fun v (x : Str) => ∃ t, v = .str x t) vs ks → ∀ (x : Str) v, v ∈ vs → (strKind P w).is x v = true → x ∈ ks := by
    intro vs ks q
    induction q with
    | nil => intro x v hv; exact nomatch hv
    | cons h t ih =>
      intro x v hv hx
      rcases List.mem_cons.mp hv with rfl | hv
      · obtain ⟨tk, rfl⟩ := h
        rw [(strKind P w).inj _ x _ hx (is_str _ tk)]
        exact .head _
      · exact .tail _ (ih x v hv hx)
  refine ⟨ks, perm_of_sub nd (fun x hx => ?_) len, q⟩
  obtain ⟨e, he, hk⟩ := (F.mem x).mp hx
  exact mem q x e.2 (List.mem_map_of_mem he) hk
/-- values that are put otherwise: their items go along -/
theorem each_move {α β : Type} {R : α → β → Prop} : ∀ {vs ws : List α} {ks : List β}, vs.Perm ws → PySem.W.EachIs R ws ks → ∃ js : List β, js.Perm ks ∧ PySem.W.EachIs R vs js := by
  intro vs ws ks p
  induction p generalizing ks with
  | nil => exact fun q => ⟨ks, .refl _, q⟩
  | cons x p ih =>
    intro q
    cases q with
    | cons h t =>
      obtain ⟨js, e, q2⟩ := ih t
      exact ⟨_ :: js, .cons _ e, .cons h q2⟩
  | swap x y l =>
    intro q
    cases q with
    | cons h t => cases t with
      | cons h2 t2 => exact ⟨_ :: _ :: _, .swap _ _ _, .cons h2 (.cons h t2)⟩
  | trans p1 p2 ih1 ih2 =>
    intro q
    obtain ⟨j2, e2, q2⟩ := ih2 q
    obtain ⟨j1, e1, q1⟩ := ih1 q2
    exact ⟨j1, e1.trans e2, q1⟩
theorem sorted_texts {a : Addr} {l : List Str} {Q : Value → Shared → Prop} (R : SetS P w s.heap a l) (hh : A.handled = none) (hu : A.units + 65 < cLine) (hz : l.length ≤ sizeLine)
    (hQ : ∀ s' p (out : List Value) (c : Nat), (∀ b o, s.heap.get? b = some o → s'.heap.get? b = some o) → s'.gens = s.gens → s'.os = s.os → s.heap.objs.size ≤ p →
      s'.heap.get? p = some (seqObj "list" out.toArray c) → PySem.W.EachIs (fun v (x : Str) => ∃ t, v = .str x t) out (sortS l) → Q (.ref p) s') :
    wpAny (model P w) A (call (.builtin "sorted") [.ref a]) Q E s := by
  obtain ⟨⟨es, ep, t⟩, ho, F, nd, hb, ri, le⟩ := R
  have fsz : es.size < scanBound := by have : es.size = l.length := F.sz; rw [this]; exact hb
  obtain ⟨ks, pk, qk⟩ := txt_vals F nd
  refine Calls.call_function_entry kind_sorted plain_sorted entry_sorted (args_sorted1 _) ?_
  unfold Builtin.«sorted»
  refine wpAny_bind (m := checkCount "sorted" 1 1 _) (wpAny_pure ?_)
  refine wpAny_bind (collect_set (A := A.in1) hh ⟨_, ho, rfl, rfl⟩ F.fit fsz ri le fun s1 vs k1 hz1 g1 o1 pm => ?_)
  obtain ⟨js, pj, qj⟩ := each_move pm qk
  have pl : js.Perm l := pj.trans pk
  have lj : js.length = l.length := pl.length_eq
  have lv : vs.length = l.length := qj.length.trans lj
  refine wpAny_bind (wpAny_newList ?_ (by rw [lv]; exact hz))
  have hoL : (s1.heap.push (seqObj "list" vs.toArray 0)).get? s1.heap.objs.size = some (seqObj "list" vs.toArray 0) := Heap.get?_push_size _ rfl
  have rd : ∀ {vs : List Value} {js : List Str}, PySem.W.EachIs (fun v (x : Str) => ∃ t, v = .str x t) vs js → PySem.W.EachIs (fun v (x : Str) => ∃ as, Reads (s1.heap.push (seqObj "list" vs.toArray 0)) v (.str x) as ∧ s1.heap.objs.size ∉ as) vs js := by
    intro vs js q
    generalize hgp : s1.heap.push (seqObj "list" vs.toArray 0) = hp
    clear hgp
    induction q with
    | nil => exact .nil
    | cons h t ih =>
      obtain ⟨tk, rfl⟩ := h
      exact .cons ⟨_, .str _ tk, fun z => nomatch z⟩ ih
  refine wpAny_bind (wpAny_holding ?_)
  refine PySem.W.list_sort_data (β := Str) (R := fun v (x : Str) => ∃ t, v = .str x t) (enc := PyData.str) hoL qj (rd qj) (PySem.W.AllAlike.of fun _ _ => rfl) (PySem.W.Sortable.others fun _ => ⟨(fun z => nomatch z), fun _ z => nomatch z⟩) (by rw [lj]; exact hz) (fun b _ => ?_) fun out lo eo => ?_
  · show A.in1.units + 1 + 0 < cLine
    show A.units + 1 + 1 + 0 < cLine
    omega
  · obtain ⟨c, hc⟩ := sortedHeap_at (vs := vs) (out := out.toArray) hoL
    refine wpAny_pure ⟨_, rfl, hQ { s1 with heap := sortedHeap (s1.heap.push (seqObj "list" vs.toArray 0)) s1.heap.objs.size vs out.toArray } s1.heap.objs.size out c (fun b u e => ?_) g1 o1 hz1 hc ?_⟩
    · have q := k1 b u e
      have lt := Heap.lt_size q
      show (sortedHeap (s1.heap.push (seqObj "list" vs.toArray 0)) s1.heap.objs.size vs out.toArray).get? b = some u
      rw [sortedHeap_old (Nat.ne_of_lt lt) (by rw [size_push']; exact Nat.lt_succ_of_lt lt)]
      exact Heap.get?_push_of_some _ q
    · rw [← sortS_perm pl]; exact eo
end
end Dn
-- DnSet4
/-! Dn: sorted(set(t)), t a tuple of texts: the rule. -/
namespace Dn
open PySem PySem.Spec PyProof.Rows L2 PySem.Froz
def setHO (P : Program) (w : World) (p : Addr) (l : List Str) : HO := .ext fun h => SetS P w h p l
def rSetT (K : PySem.W.Frag) (P : Program) (w : World) : List V → Hp → VK → Prop := fun vs H Q => ∃ (a : Addr) (xs : List Str), vs = [.ref a] ∧ SqT K H a (xs.map V.str) ∧ xs.length + 1 < scanBound ∧ ∀ p, H p = none → Q (.ref p) (upd H p (setHO P w p (addAll xs)))
def rSortSet (P : Program) (w : World) : List V → Hp → VK → Prop := fun vs H Q => ∃ (a : Addr) (l : List Str), vs = [.ref a] ∧ H a = some (setHO P w a l) ∧ l.length ≤ sizeLine ∧ ∀ p, H p = none → Q (.ref p) (upd H p (.lst ((sortS l).map V.str)))
section
variable {X : Cx}
theorem cr_setT (hc : X.calm = true) : CallR X (.type "set") (rSetT X.K X.prog X.w) := by
  intro pins s σ H vs us Q I r h
  obtain ⟨a, xs, rfl, hs, room, q⟩ := h
  obtain ⟨its, rv, ht, hz⟩ := I.tuple hs
  rw [Vals.ref1 r]
  have sa := rv.strs
  have len : its.length = xs.length := by rw [← rv.length, List.length_map]
  refine set_of_texts xs (I.ok.hd hc) ht (fun i v e => ?_) (by rw [List.size_toArray]; exact len) room fun h' tk hS keep => ?_
  · rw [List.getElem?_toArray] at e
    obtain ⟨y, t, ev, ey⟩ := PyProof.Rows.StrsAre.item sa i v e
    exact ⟨y, t, ey, ev⟩
  · refine ⟨.ref _, upd H s.heap.objs.size (setHO X.prog X.w s.heap.objs.size (addAll xs)), I.laid (t' := tk) keep (Nat.le_refl _) ⟨hS, ?_, fun h1 h2 φ k => SetS.at φ k⟩, rfl, q _ (I.hok.fresh (Nat.le_refl _))⟩
    obtain ⟨D, ho, _⟩ := hS
    exact ⟨_, ho⟩
theorem each_strs : ∀ {out : List Value} {ks : List Str}, PySem.W.EachIs (fun v (x : Str) => ∃ t, v = .str x t) out ks → Vals (ks.map V.str) out
  | _, _, .nil => .nil
  | _, _, .cons h t => .cons h (each_strs t)
theorem cr_sortSet (hc : X.calm = true) (hu : X.A.units + 65 < cLine) : CallR X (.builtin "sorted") (rSortSet X.prog X.w) := by
  intro pins s σ H vs us Q I r h
  obtain ⟨a, l, rfl, ha, hz, q⟩ := h
  rw [Vals.ref1 r]
  have hS : SetS X.prog X.w s.heap a l := (I.hok a _ ha).1
  refine sorted_texts hS (I.ok.hd hc) hu hz fun s' p out c k g o hp hg eo => ?_
  have hl : ((sortS l).map V.str).length ≤ sizeLine := by rw [List.length_map]; unfold sortS; rw [List.length_mergeSort]; exact hz
  have hn : H p = none := I.hok.fresh hp
  have J : Inv X pins σ (upd H p (.lst ((sortS l).map V.str))) { s with heap := s'.heap, gens := s'.gens, drawn := s'.drawn, toks := s'.toks } :=
    I.call (ch := []) (Un.laid k hp hn) (I.hok.laid k hp ⟨hl, out, c, each_strs eo, hg⟩) (by rw [g]; exact I.bare) (fun _ z => nomatch z)
  have e : s' = { s with heap := s'.heap, gens := s'.gens, drawn := s'.drawn, toks := s'.toks } := by
    cases s'
    cases s
    cases o
    rfl
  rw [e]
  exact ⟨.ref p, _, J, rfl, q p hn⟩
end
def strsD : List D → Option (List Str)
  | [] => some []
  | .str x :: r => (strsD r).map (x :: ·)
  | _ => none
def eSortSet (F : E D) : E (List D) := eBind F fun d ρ M => match d with
  | .tup ds => (match strsD ds with
    | some xs => if xs.length ≤ 1000 then .ok ((sortS (addAll xs)).map .str) ρ M else .stuck
    | none => .stuck)
  | _ => .stuck
section
variable {X : Cx} {Γ : Gc} {W : WX} {a : Expr} {F : E D} {pos p pos2 p2 : Pos}
theorem strs_at {φ : List Addr} {H : Hp} : ∀ {ds : List D} {vs : List V} {xs : List Str}, Ats Γ φ H vs ds → strsD ds = some xs → vs = xs.map V.str
  | [], _, _, r, e => by cases r; simp only [strsD] at e; cases e; rfl
  | d :: ds, _, _, r, e => by
    cases r with
    | cons h t =>
      cases h <;> simp only [strsD] at e <;> first | (cases e; done) | skip
      obtain ⟨ys, e1, e2⟩ := Option.map_eq_some_iff.mp e
      subst e2
      rw [List.map_cons, strs_at t e1]
theorem ats_strs {φ : List Addr} {H : Hp} : ∀ xs : List Str, Ats Γ φ H (xs.map V.str) (xs.map D.str)
  | [] => .nil
  | x :: xs => .cons (.str x) (ats_strs xs)
/-- sorted(set(t)) -/
theorem f_sortSet (hc : X.calm = true) (hu : X.A.units + 65 < cLine) (hg : Gl X "sorted") (hm : X.mg "sorted" = none) (hg2 : Gl X "set") (hm2 : X.mg "set" = none) (ha : PE X a (tE Γ W F)) (hK : X.K = Γ.K := by rfl)
    (he : starEach [.Call (.Name "set" p2) [a] [] pos2] X.env = (false, eval (.Call (.Name "set" p2) [a] [] pos2) X.env) :: starEach [] X.env := by rfl) (he2 : starEach [a] X.env = (false, eval a X.env) :: starEach [] X.env := by rfl) :
    PE X (.Call (.Name "sorted" p) [.Call (.Name "set" p2) [a] [] pos2] [] pos) (tF Γ W (eSortSet F)) :=
  PEimp (pe_callB (cr_sortSet hc hu) hg hm (by decide +kernel) (pa_cons (pe_callTy (cr_setT hc) hg2 hm2 (by decide +kernel) (pa_cons ha pa_nil he2) (he := he2)) pa_nil he) (he := he)) fun σ H Q ⟨φ, ρ, M, I, h⟩ => tX.bind I h fun φ1 ρ1 M1 H1 v d I1 m1 a1 h1 => by
    cases a1 with
    | tup s z r =>
      dsimp only at h1
      split at h1
      · rename_i xs ex
        split at h1
        · rename_i hl
          have ev := strs_at r ex
          subst ev
          rw [hK]
          refine ⟨_, xs, rfl, s, Nat.lt_of_le_of_lt (Nat.succ_le_succ hl) (by decide), fun q hq => ⟨q, _, rfl, upd_same, ?_, fun t ht => ?_⟩⟩
          · have := addAll_len xs
            rw [sizeLine_eq]; omega
          · have I2 := I1.new (o := setHO X.prog X.w q (addAll xs)) hq
            have hlen : ((sortS (addAll xs)).map V.str).length ≤ sizeLine := by
              have := addAll_len xs
              rw [List.length_map]; unfold sortS; rw [List.length_mergeSort, sizeLine_eq]; omega
            have h1t : H1 t = none := by
              by_cases hq2 : t = q
              · rw [hq2, upd_same] at ht; cases ht
              · rw [upd_ne hq2] at ht; exact ht
            exact h1 φ1 _ _ (I2.new ht) ((Mono.new hq).trans (Mono.new ht)) ⟨t, _, rfl, .none h1t, fun z => I2.notIn ht z, fun z => I2.notOwned ht z, upd_same, hlen, ats_strs _⟩
        · exact h1.elim
      · exact h1.elim
    | _ => exact h1.elim
end
end Dn
-- DnLenD
/-! Dn: len of a new dict. -/
namespace Dn
open PySem PySem.Spec PyProof.Rows L2
section
variable {X : Cx} {Γ : Gc} {W : WX} {a : Expr} {L : E (List Key × List D)} {p pos : Pos}
theorem e_lenFd (hg : Gl X "len") (hm : X.mg "len" = none) (ha : PE X a (tFd Γ W L)) (he : starEach [a] X.env = (false, eval a X.env) :: starEach [] X.env := by rfl) : PE X (.Call (.Name "len" p) [a] [] pos) (tE Γ W (eBind L fun kd => eOk (.int kd.1.length))) :=
  PEimp (pe_callB call_lenD hg hm PySem.boot_len (pa_cons ha pa_nil he) (he := he)) fun σ H Q ⟨φ, ρ, M, I, h⟩ => tX.bind I h fun φ1 ρ1 M1 H1 v kd I1 m1 ⟨q, vs, e, _, _, _, hp, hl, r⟩ h1 => by
    subst e
    refine ⟨q, kd.1.zip vs, rfl, hp, ?_⟩
    have : (kd.1.zip vs).length = kd.1.length := by rw [List.length_zip, hl, Nat.min_self]
    rw [this]
    exact h1.now I1 (.int _)
end
end Dn
-- DnP
/-! Dn: the plain functions told: what must hold ahead. -/
namespace Dn
open PySem L2

def R.Okk {α : Type} (r : R α) (Q : α → Rho → Mem → Prop) : Prop := match r with
  | .ok a ρ M => Q a ρ M
  | _ => False
/-- what is asked at each end of a statement -/
structure Post where
  nx : Rho → Mem → Prop
  rt : D → Mem → Prop := fun _ _ => False
  ct : Rho → Mem → Prop := fun _ _ => False
  bk : Rho → Mem → Prop := fun _ _ => False
def Oc.Okk (o : Oc) (P : Post) : Prop := match o with
  | .nx ρ M => P.nx ρ M
  | .ret d _ M => P.rt d M
  | .cnt ρ M => P.ct ρ M
  | .brk ρ M => P.bk ρ M
  | _ => False
/-- a call of a def -/
def Fn.Okk (G : Fn) (ds : List D) (M : Mem) (Q : D → Mem → Prop) : Prop := match G ds M with
  | .ok d _ M' => Q d M'
  | _ => False
section
variable {α β : Type} {ρ : Rho} {M : Mem} {Q : α → Rho → Mem → Prop} {P : Post}
@[simp] theorem Okk_ok {a : α} : (R.ok a ρ M).Okk Q ↔ Q a ρ M := Iff.rfl
@[simp] theorem Okk_stuck : (R.stuck : R α).Okk Q ↔ False := Iff.rfl
@[simp] theorem Okk_exc {n : Str} {t : D} : (R.exc n t ρ M : R α).Okk Q ↔ False := Iff.rfl
theorem R.Okk.mono {r : R α} {Q' : α → Rho → Mem → Prop} (h : r.Okk Q) (i : ∀ a ρ M, Q a ρ M → Q' a ρ M) : r.Okk Q' := by
  cases r with
  | ok a ρ M => exact i _ _ _ h
  | _ => exact h
theorem R.Okk.is {r : R α} (h : r.Okk Q) : ∃ a ρ M, r = .ok a ρ M ∧ Q a ρ M := by
  cases r with
  | ok a ρ M => exact ⟨_, _, _, rfl, h⟩
  | _ => exact h.elim
@[simp] theorem Okk_bind {r : R α} {f : α → Rho → Mem → R β} {Q : β → Rho → Mem → Prop} : (r.bind f).Okk Q ↔ r.Okk fun a ρ M => (f a ρ M).Okk Q := by cases r <;> rfl
@[simp] theorem Okk_noExc {r : R α} : r.noExc.Okk Q ↔ r.Okk Q := by cases r <;> rfl
@[simp] theorem Okk_eBind {F : E α} {G : α → E β} {Q : β → Rho → Mem → Prop} : (eBind F G ρ M).Okk Q ↔ (F ρ M).Okk fun a ρ M => (G a ρ M).Okk Q := by unfold eBind; exact Okk_bind
@[simp] theorem Okk_eOk {a : α} : (eOk a ρ M).Okk Q ↔ Q a ρ M := Iff.rfl
@[simp] theorem Okk_eStuck : ((eStuck : E α) ρ M).Okk Q ↔ False := Iff.rfl
@[simp] theorem Okk_eMap {f : α → β} {F : E α} {Q : β → Rho → Mem → Prop} : (eMap f F ρ M).Okk Q ↔ (F ρ M).Okk fun a ρ M => Q (f a) ρ M := by unfold eMap; rw [Okk_eBind]; rfl
theorem Okk_ite {c : Prop} [Decidable c] {a b : R α} : (if c then a else b).Okk Q ↔ if c then a.Okk Q else b.Okk Q := by split <;> rfl
@[simp] theorem Okk_iteE {c : Prop} [Decidable c] {a b : E α} : ((if c then a else b) ρ M).Okk Q ↔ if c then (a ρ M).Okk Q else (b ρ M).Okk Q := by split <;> rfl
@[simp] theorem Okk_thn {r : R α} {f : α → FS} : (r.thn f).Okk P ↔ r.Okk fun a ρ M => (f a ρ M).Okk P := by cases r <;> rfl
@[simp] theorem Okk_nx : (Oc.nx ρ M).Okk P ↔ P.nx ρ M := Iff.rfl
@[simp] theorem Okk_ret {d : D} : (Oc.ret d ρ M).Okk P ↔ P.rt d M := Iff.rfl
@[simp] theorem Okk_cnt : (Oc.cnt ρ M).Okk P ↔ P.ct ρ M := Iff.rfl
@[simp] theorem Okk_brk : (Oc.brk ρ M).Okk P ↔ P.bk ρ M := Iff.rfl
@[simp] theorem Okk_stuckS : Oc.stuck.Okk P ↔ False := Iff.rfl
@[simp] theorem Okk_excS {n : Str} {t : D} : (Oc.exc n t ρ M).Okk P ↔ False := Iff.rfl
theorem Oc.Okk.mono {o : Oc} {P' : Post} (h : o.Okk P) (h1 : ∀ ρ M, P.nx ρ M → P'.nx ρ M) (h2 : ∀ d M, P.rt d M → P'.rt d M) (h3 : ∀ ρ M, P.ct ρ M → P'.ct ρ M) (h4 : ∀ ρ M, P.bk ρ M → P'.bk ρ M) : o.Okk P' := by
  cases o with
  | nx ρ M => exact h1 _ _ h
  | ret d ρ M => exact h2 _ _ h
  | cnt ρ M => exact h3 _ _ h
  | brk ρ M => exact h4 _ _ h
  | _ => exact h
@[simp] theorem Okk_seq {A B : FS} : (sSeq A B ρ M).Okk P ↔ (A ρ M).Okk { P with nx := fun ρ M => (B ρ M).Okk P } := by
  unfold sSeq
  cases A ρ M <;> rfl
@[simp] theorem Okk_sNx : (sNx ρ M).Okk P ↔ P.nx ρ M := Iff.rfl
@[simp] theorem Okk_sDrop {F : E D} : (sDrop F ρ M).Okk P ↔ (F ρ M).Okk fun _ ρ M => P.nx ρ M := by unfold sDrop; exact Okk_thn
@[simp] theorem Okk_sRet {F : E D} : (sRet F ρ M).Okk P ↔ (F ρ M).Okk fun d _ M => P.rt d M := by unfold sRet; exact Okk_thn
theorem Okk_iteS {c : Prop} [Decidable c] {a b : FS} : ((if c then a else b) ρ M).Okk P ↔ if c then (a ρ M).Okk P else (b ρ M).Okk P := by split <;> rfl
@[simp] theorem Okk_sIf {T : E Bool} {A B : FS} : (sIf T A B ρ M).Okk P ↔ (T ρ M).Okk fun b ρ M => if b = true then (A ρ M).Okk P else (B ρ M).Okk P := by
  unfold sIf; rw [Okk_thn]
  simp only [Okk_iteS]
@[simp] theorem Okk_sSet {pt : Pt} {F : E D} : (sSet pt F ρ M).Okk P ↔ (F ρ M).Okk fun d ρ M => ∃ ρ', bindP pt d ρ = some ρ' ∧ P.nx ρ' M := by
  unfold sSet; rw [Okk_thn]
  constructor <;> intro h <;> refine h.mono fun d ρ M q => ?_
  · cases e : bindP pt d ρ with
    | none => rw [e] at q; exact q.elim
    | some ρ' => rw [e] at q; exact ⟨ρ', rfl, q⟩
  · obtain ⟨ρ', e, q⟩ := q
    rw [e]; exact q
@[simp] theorem Okk_sOwn {i : Nat} {L : E (List D)} : (sOwn i L ρ M).Okk P ↔ (L ρ M).Okk fun ds ρ M => i < ρ.length ∧ P.nx (ρ.set i (.own (.lst ds))) M := by
  unfold sOwn; rw [Okk_thn]
  constructor <;> intro h <;> refine h.mono fun d ρ M q => ?_
  · split at q
    · rename_i hi; exact ⟨hi, q⟩
    · exact q.elim
  · rw [if_pos q.1]; exact q.2
@[simp] theorem Okk_sPar {js : List Nat} {L : E (List Itm)} : (sPar js L ρ M).Okk P ↔ (L ρ M).Okk fun is ρ M => ∃ ρ', setIs js is ρ = some ρ' ∧ P.nx ρ' M := by
  unfold sPar; rw [Okk_thn]
  constructor <;> intro h <;> refine h.mono fun d ρ M q => ?_
  · cases e : setIs js d ρ with
    | none => rw [e] at q; exact q.elim
    | some ρ' => rw [e] at q; exact ⟨ρ', rfl, q⟩
  · obtain ⟨ρ', e, q⟩ := q
    rw [e]; exact q
@[simp] theorem bind_nm {i : Nat} {d : D} : bindP (.nm i) d ρ = some (ρ.set i (.val d)) := by simp only [bindP]
/-- a value to a name -/
theorem Okk_set1 {i : Nat} {F : E D} : (sSet (.nm i) F ρ M).Okk P ↔ (F ρ M).Okk fun d ρ M => P.nx (ρ.set i (.val d)) M := by
  rw [Okk_sSet]
  simp only [bind_nm, Option.some.injEq, exists_eq_left']
@[simp] theorem Okk_eVar {i : Nat} {Q : D → Rho → Mem → Prop} : (eVar i ρ M).Okk Q ↔ ∃ d, ρ[i]? = some (.val d) ∧ Q d ρ M := by
  unfold eVar
  constructor
  · intro h
    split at h
    · rename_i d e; exact ⟨d, e, h⟩
    · exact h.elim
  · rintro ⟨d, e, h⟩
    rw [e]; exact h
@[simp] theorem Okk_optE {o : Option D} {Q : D → Rho → Mem → Prop} : (optE o ρ M).Okk Q ↔ ∃ d, o = some d ∧ Q d ρ M := by
  unfold optE
  cases o <;> simp
@[simp] theorem Okk_optB {o : Option Bool} {Q : Bool → Rho → Mem → Prop} : (optB o ρ M).Okk Q ↔ ∃ d, o = some d ∧ Q d ρ M := by
  unfold optB
  cases o <;> simp
@[simp] theorem Okk_optL {o : Option (List D)} {Q : List D → Rho → Mem → Prop} : (optL o ρ M).Okk Q ↔ ∃ d, o = some d ∧ Q d ρ M := by
  unfold optL
  cases o <;> simp
@[simp] theorem Okk_eOp {g : D → D → Option D} {F G : E D} {Q : D → Rho → Mem → Prop} : (eOp g F G ρ M).Okk Q ↔ (F ρ M).Okk fun a ρ M => (G ρ M).Okk fun b ρ M => ∃ d, g a b = some d ∧ Q d ρ M := by
  unfold eOp; simp only [Okk_eBind, Okk_optE]
@[simp] theorem Okk_eUn {g : D → Option D} {F : E D} {Q : D → Rho → Mem → Prop} : (eUn g F ρ M).Okk Q ↔ (F ρ M).Okk fun a ρ M => ∃ d, g a = some d ∧ Q d ρ M := by
  unfold eUn; simp only [Okk_eBind, Okk_optE]
@[simp] theorem Okk_eB {F : E D} {Q : Bool → Rho → Mem → Prop} : (eB F ρ M).Okk Q ↔ (F ρ M).Okk fun a ρ M => ∃ d, isB a = some d ∧ Q d ρ M := by
  unfold eB; simp only [Okk_eBind, Okk_optB]
@[simp] theorem Okk_eT {F : E D} {Q : Bool → Rho → Mem → Prop} : (eT F ρ M).Okk Q ↔ (F ρ M).Okk fun a ρ M => ∃ d, truth a = some d ∧ Q d ρ M := by
  unfold eT; simp only [Okk_eBind, Okk_optB]
@[simp] theorem Okk_eIsi {n : String} {F : E D} {Q : D → Rho → Mem → Prop} : (eIsi n F ρ M).Okk Q ↔ (F ρ M).Okk fun a ρ M => ∃ d, isiD n a = some d ∧ Q d ρ M := by
  unfold eIsi; simp only [Okk_eBind, Okk_optE]
@[simp] theorem Okk_bAnd {F G : E Bool} {Q : Bool → Rho → Mem → Prop} : (bAnd F G ρ M).Okk Q ↔ (F ρ M).Okk fun b ρ M => if b = true then (G ρ M).Okk Q else Q false ρ M := by
  unfold bAnd; simp only [Okk_eBind, Okk_iteE, Okk_eOk]
@[simp] theorem Okk_bOr {F G : E Bool} {Q : Bool → Rho → Mem → Prop} : (bOr F G ρ M).Okk Q ↔ (F ρ M).Okk fun b ρ M => if b = true then Q true ρ M else (G ρ M).Okk Q := by
  unfold bOr; simp only [Okk_eBind, Okk_iteE, Okk_eOk]
@[simp] theorem Okk_bNot {F : E Bool} {Q : Bool → Rho → Mem → Prop} : (bNot F ρ M).Okk Q ↔ (F ρ M).Okk fun b ρ M => Q (!b) ρ M := by
  unfold bNot; simp only [Okk_eBind, Okk_eOk]
@[simp] theorem Okk_eAndV {F G : E D} {Q : D → Rho → Mem → Prop} : (eAndV F G ρ M).Okk Q ↔ (F ρ M).Okk fun d ρ M => ∃ b, truth d = some b ∧ if b = true then (G ρ M).Okk Q else Q d ρ M := by
  unfold eAndV; simp only [Okk_eBind, Okk_iteE, Okk_eOk, Okk_optB]
@[simp] theorem Okk_eOrV {F G : E D} {Q : D → Rho → Mem → Prop} : (eOrV F G ρ M).Okk Q ↔ (F ρ M).Okk fun d ρ M => ∃ b, truth d = some b ∧ if b = true then Q d ρ M else (G ρ M).Okk Q := by
  unfold eOrV; simp only [Okk_eBind, Okk_iteE, Okk_eOk, Okk_optB]
@[simp] theorem Okk_eNotV {F : E D} {Q : D → Rho → Mem → Prop} : (eNotV F ρ M).Okk Q ↔ (F ρ M).Okk fun d ρ M => ∃ b, truth d = some b ∧ Q (.bl (!b)) ρ M := by
  unfold eNotV; simp only [Okk_eBind, Okk_eOk, Okk_optB]
@[simp] theorem Okk_eIf {T : E Bool} {F G : E D} {Q : D → Rho → Mem → Prop} : (eIf T F G ρ M).Okk Q ↔ (T ρ M).Okk fun b ρ M => if b = true then (F ρ M).Okk Q else (G ρ M).Okk Q := by
  unfold eIf; simp only [Okk_eBind, Okk_iteE]
@[simp] theorem Okk_eNil {Q : List D → Rho → Mem → Prop} : (eNil ρ M).Okk Q ↔ Q [] ρ M := Iff.rfl
@[simp] theorem Okk_eCons {F : E D} {G : E (List D)} {Q : List D → Rho → Mem → Prop} : (eCons F G ρ M).Okk Q ↔ (F ρ M).Okk fun d ρ M => (G ρ M).Okk fun ds ρ M => Q (d :: ds) ρ M := by
  unfold eCons; simp only [Okk_eBind, Okk_eOk]
@[simp] theorem Okk_eStar {F G : E (List D)} {Q : List D → Rho → Mem → Prop} : (eStar F G ρ M).Okk Q ↔ (F ρ M).Okk fun xs ρ M => (G ρ M).Okk fun ys ρ M => Q (xs ++ ys) ρ M := by
  unfold eStar; simp only [Okk_eBind, Okk_eOk]
@[simp] theorem Okk_eTup {L : E (List D)} {Q : D → Rho → Mem → Prop} : (eTup L ρ M).Okk Q ↔ (L ρ M).Okk fun ds ρ M => ds.length ≤ sizeLine ∧ Q (.tup ds) ρ M := by
  unfold eTup; simp only [Okk_eBind, Okk_iteE, Okk_eOk, Okk_eStuck]
  constructor <;> intro h <;> refine h.mono fun d ρ M q => ?_
  · split at q
    · exact ⟨by assumption, q⟩
    · exact q.elim
  · rw [if_pos q.1]; exact q.2
@[simp] theorem Okk_eLst {L : E (List D)} {Q : List D → Rho → Mem → Prop} : (eLst L ρ M).Okk Q ↔ (L ρ M).Okk fun ds ρ M => ds.length ≤ sizeLine ∧ Q ds ρ M := by
  unfold eLst; simp only [Okk_eBind, Okk_iteE, Okk_eOk, Okk_eStuck]
  constructor <;> intro h <;> refine h.mono fun d ρ M q => ?_
  · split at q
    · exact ⟨by assumption, q⟩
    · exact q.elim
  · rw [if_pos q.1]; exact q.2
@[simp] theorem Okk_eCat {L L' : E (List D)} {Q : List D → Rho → Mem → Prop} : (eCat L L' ρ M).Okk Q ↔ (L ρ M).Okk fun xs ρ M => (L' ρ M).Okk fun ys ρ M => xs.length + ys.length ≤ sizeLine ∧ Q (xs ++ ys) ρ M := by
  unfold eCat; simp only [Okk_eBind, Okk_iteE, Okk_eOk, Okk_eStuck]
  constructor <;> intro h <;> refine h.mono fun d ρ M q => q.mono fun d ρ M q => ?_
  · split at q
    · exact ⟨by assumption, q⟩
    · exact q.elim
  · rw [if_pos q.1]; exact q.2
@[simp] theorem Okk_eOwn {i : Nat} {Q : List D → Rho → Mem → Prop} : (eOwn i ρ M).Okk Q ↔ ∃ ds, ρ[i]? = some (.own (.lst ds)) ∧ Q ds ρ M := by
  unfold eOwn
  constructor
  · intro h
    split at h
    · rename_i d e; exact ⟨d, e, h⟩
    · exact h.elim
  · rintro ⟨d, e, h⟩
    rw [e]; exact h
@[simp] theorem Okk_eGive {i : Nat} {Q : D → Rho → Mem → Prop} : (eGive i ρ M).Okk Q ↔ ∃ ds, ρ[i]? = some (.own (.lst ds)) ∧ Q (.lst ds) (ρ.set i (.val (.lst ds))) M := by
  unfold eGive
  constructor
  · intro h
    split at h
    · rename_i d e; exact ⟨d, e, h⟩
    · exact h.elim
  · rintro ⟨d, e, h⟩
    rw [e]; exact h
@[simp] theorem Okk_oNo {Q : Option Int → Rho → Mem → Prop} : (oNo ρ M).Okk Q ↔ Q none ρ M := Iff.rfl
@[simp] theorem Okk_oInt {F : E D} {Q : Option Int → Rho → Mem → Prop} : (oInt F ρ M).Okk Q ↔ (F ρ M).Okk fun d ρ M => ∃ i, d = .int i ∧ Q (some i) ρ M := by
  unfold oInt; rw [Okk_eBind]
  constructor <;> intro h <;> refine h.mono fun d ρ M q => ?_
  · cases d <;> first | exact ⟨_, rfl, q⟩ | exact q.elim
  · obtain ⟨i, rfl, q⟩ := q; exact q
@[simp] theorem Okk_eSlF {F : E D} {A B : E (Option Int)} {Q : List D → Rho → Mem → Prop} : (eSlF F A B ρ M).Okk Q ↔ (F ρ M).Okk fun d ρ M => (A ρ M).Okk fun l ρ M => (B ρ M).Okk fun h ρ M => ∃ ds, d = .lst ds ∧ Q (cutD ds l h) ρ M := by
  unfold eSlF; simp only [Okk_eBind]
  constructor <;> intro h <;> refine h.mono fun d ρ M q => q.mono fun l ρ M q1 => q1.mono fun h ρ M q2 => ?_
  · cases d <;> first | exact ⟨_, rfl, q2⟩ | exact q2.elim
  · obtain ⟨i, rfl, q3⟩ := q2; exact q3
@[simp] theorem Okk_eSlT {F : E D} {A B : E (Option Int)} {Q : D → Rho → Mem → Prop} : (eSlT F A B ρ M).Okk Q ↔ (F ρ M).Okk fun d ρ M => (A ρ M).Okk fun l ρ M => (B ρ M).Okk fun h ρ M => (match d with
    | .tup ds => Q (.tup (cutD ds l h)) ρ M
    | .str z => z.length ≤ sizeLine ∧ Q (.str (cutS z l h)) ρ M
    | _ => False) := by
  unfold eSlT; simp only [Okk_eBind]
  constructor <;> intro h <;> refine h.mono fun d ρ M q => q.mono fun l ρ M q => q.mono fun h ρ M q => ?_
  · cases d <;> first | exact q | skip
    simp only [Okk_iteE] at q
    split at q
    · exact ⟨by assumption, q⟩
    · exact q.elim
  · cases d <;> first | exact q | skip
    simp only [Okk_iteE]
    rw [if_pos q.1]; exact q.2
@[simp] theorem Okk_mNil {Q : List Itm → Rho → Mem → Prop} : (mNil ρ M).Okk Q ↔ Q [] ρ M := Iff.rfl
@[simp] theorem Okk_mVal {F : E D} {G : E (List Itm)} {Q : List Itm → Rho → Mem → Prop} : (mVal F G ρ M).Okk Q ↔ (F ρ M).Okk fun d ρ M => (G ρ M).Okk fun is ρ M => Q (.v d :: is) ρ M := by
  unfold mVal; simp only [Okk_eBind, Okk_eOk]
@[simp] theorem Okk_mNew {L : E (List D)} {G : E (List Itm)} {Q : List Itm → Rho → Mem → Prop} : (mNew L G ρ M).Okk Q ↔ (L ρ M).Okk fun d ρ M => (G ρ M).Okk fun is ρ M => Q (.n d :: is) ρ M := by
  unfold mNew; simp only [Okk_eBind, Okk_eOk]
@[simp] theorem Okk_eIsNil {neg : Bool} {L : E (List D)} {Q : D → Rho → Mem → Prop} : (eIsNil neg L ρ M).Okk Q ↔ (L ρ M).Okk fun ds ρ M => Q (.bl (if neg then !ds.isEmpty else ds.isEmpty)) ρ M := by
  unfold eIsNil; rw [Okk_eMap]
@[simp] theorem Okk_eSeq {F : E D} {Q : List D → Rho → Mem → Prop} : (eSeq F ρ M).Okk Q ↔ (F ρ M).Okk fun d ρ M => (seqOf d ρ M).Okk Q := by unfold eSeq; rw [Okk_eBind]
@[simp] theorem Okk_eLstV {F : E D} {Q : List D → Rho → Mem → Prop} : (eLstV F ρ M).Okk Q ↔ (F ρ M).Okk fun d ρ M => (lstOf d ρ M).Okk Q := by unfold eLstV; rw [Okk_eBind]
@[simp] theorem Okk_eIter {F : E D} {Q : List D → Rho → Mem → Prop} : (eIter F ρ M).Okk Q ↔ (F ρ M).Okk fun d ρ M => (iterOf d ρ M).Okk Q := by unfold eIter; rw [Okk_eBind]
@[simp] theorem Okk_ePub {L : E (List D)} {Q : D → Rho → Mem → Prop} : (ePub L ρ M).Okk Q ↔ (L ρ M).Okk fun ds ρ M => Q (.ref M.length) ρ (M ++ [.lst ds]) := by
  unfold ePub; rw [Okk_eBind]; rfl
@[simp] theorem Okk_eDpub {L : E (List Key × List D)} {Q : D → Rho → Mem → Prop} : (eDpub L ρ M).Okk Q ↔ (L ρ M).Okk fun kd ρ M => Q (.ref M.length) ρ (M ++ [.dct kd.1 kd.2]) := by
  unfold eDpub; rw [Okk_eBind]; rfl
@[simp] theorem Okk_callG {G : Fn} {ds : List D} {Q : D → Rho → Mem → Prop} : (callG G ds ρ M).Okk Q ↔ Fn.Okk G ds M fun d M' => Q d ρ M' := by
  unfold callG Fn.Okk
  cases G ds M <;> rfl
@[simp] theorem Okk_eCall {n : Nat} {G : Fn} {L : E (List D)} {Q : D → Rho → Mem → Prop} : (eCall n G L ρ M).Okk Q ↔ (L ρ M).Okk fun ds ρ M => ds.length = n ∧ Fn.Okk G ds M fun d M' => Q d ρ M' := by
  unfold eCall; simp only [Okk_eBind, Okk_iteE, Okk_eStuck, Okk_callG]
  constructor <;> intro h <;> refine h.mono fun d ρ M q => ?_
  · split at q
    · exact ⟨by assumption, q⟩
    · exact q.elim
  · rw [if_pos q.1]; exact q.2
@[simp] theorem Okk_eCallK {n m : Nat} {idx : List Nat} {G : Fn} {L : E (List D)} {Q : D → Rho → Mem → Prop} : (eCallK n idx m G L ρ M).Okk Q ↔ (L ρ M).Okk fun ds ρ M => (ds.length = m ∧ (pickL idx ds).length = n) ∧ Fn.Okk G (pickL idx ds) M fun d M' => Q d ρ M' := by
  unfold eCallK; simp only [Okk_eBind, Okk_iteE, Okk_eStuck, Okk_callG]
  constructor <;> intro h <;> refine h.mono fun d ρ M q => ?_
  · split at q
    · exact ⟨by assumption, q⟩
    · exact q.elim
  · rw [if_pos q.1]; exact q.2
@[simp] theorem Okk_body {n : Nat} {B : FS} {ds : List D} {Q : D → Mem → Prop} : Fn.Okk (bodyG n B) ds M Q ↔ (B (startR n ds) M).Okk { nx := fun _ M => Q .non M, rt := Q } := by
  unfold Fn.Okk bodyG
  cases B (startR n ds) M <;> rfl
theorem Fn.Okk.mono {G : Fn} {ds : List D} {Q Q' : D → Mem → Prop} (h : Fn.Okk G ds M Q) (i : ∀ d M, Q d M → Q' d M) : Fn.Okk G ds M Q' := by
  unfold Fn.Okk at h ⊢
  cases e : G ds M with
  | ok d ρ M => rw [e] at h; exact i _ _ h
  | _ => rw [e] at h; exact h
theorem Fn.Okk.is {G : Fn} {ds : List D} {Q : D → Mem → Prop} (h : Fn.Okk G ds M Q) : ∃ d ρ M', G ds M = .ok d ρ M' ∧ Q d M' := by
  unfold Fn.Okk at h
  cases e : G ds M with
  | ok d ρ M => rw [e] at h; exact ⟨_, _, _, rfl, h⟩
  | _ => rw [e] at h; exact h.elim
theorem Fn.ok_ofk {G : Fn} {ds : List D} {Q : D → Mem → Prop} {d : D} {M' : Mem} (e : G ds M = .ok d ρ M') (q : Q d M') : Fn.Okk G ds M Q := by unfold Fn.Okk; rw [e]; exact q
@[simp] theorem Okk_eOwnM {i : Nat} {op : Op1} {L : E (List D)} {Q : D → Rho → Mem → Prop} : (eOwnM i op L ρ M).Okk Q ↔ (ownL ρ i).isSome = true ∧ (L ρ M).Okk fun xs ρ M => ∃ ds, ρ[i]? = some (.own (.lst ds)) ∧ ∃ z, op ds xs = some z ∧ Q z.1 (ρ.set i (.own (.lst z.2))) M := by
  unfold eOwnM
  rw [Okk_ite]
  constructor
  · intro h
    split at h
    · rename_i h1
      refine ⟨h1, ?_⟩
      rw [Okk_bind] at h
      refine h.mono fun xs ρ M q => ?_
      split at q
      · rename_i ds e
        split at q
        · rename_i z ds' e2; exact ⟨ds, ownL_some e, (z, ds'), e2, q⟩
        · exact q.elim
      · exact q.elim
    · exact h.elim
  · rintro ⟨h1, h⟩
    rw [if_pos h1, Okk_bind]
    refine h.mono fun xs ρ M ⟨ds, e, ⟨z, ds'⟩, e2, q⟩ => ?_
    have : ownL ρ i = some ds := by unfold ownL; rw [e]
    rw [this]
    simp only [e2]
    exact q
@[simp] theorem Okk_eOwnX {i : Nat} {L : E (List D)} {Q : D → Rho → Mem → Prop} : (eOwnX i L ρ M).Okk Q ↔ (ownL ρ i).isSome = true ∧ (L ρ M).Okk fun xs ρ M => ∃ ds, ρ[i]? = some (.own (.lst ds)) ∧ ds.length + xs.length ≤ sizeLine ∧ Q .non (ρ.set i (.own (.lst (ds ++ xs)))) M := by
  unfold eOwnX
  rw [Okk_ite]
  constructor
  · intro h
    split at h
    · rename_i h1
      refine ⟨h1, ?_⟩
      rw [Okk_bind] at h
      refine h.mono fun xs ρ M q => ?_
      split at q
      · rename_i ds e
        split at q
        · rename_i z; exact ⟨ds, ownL_some e, z, q⟩
        · exact q.elim
      · exact q.elim
    · exact h.elim
  · rintro ⟨h1, h⟩
    rw [if_pos h1, Okk_bind]
    refine h.mono fun xs ρ M ⟨ds, e, z, q⟩ => ?_
    have : ownL ρ i = some ds := by unfold ownL; rw [e]
    rw [this]
    simp only []
    rw [if_pos z]; exact q
theorem ownL_of {i : Nat} {ds : List D} (h : ρ[i]? = some (.own (.lst ds))) : (ownL ρ i).isSome = true := by unfold ownL; rw [h]; rfl
@[simp] theorem Okk_eRefM {F : E D} {op : Op1} {L : E (List D)} {Q : D → Rho → Mem → Prop} : (eRefM F op L ρ M).Okk Q ↔ (F ρ M).Okk fun d ρ M => ∃ i ds0, d = .ref i ∧ M[i]? = some (.lst ds0) ∧ (L ρ M).Okk fun xs ρ M => ∃ ds, M[i]? = some (.lst ds) ∧ ∃ z, op ds xs = some z ∧ Q z.1 ρ (M.set i (.lst z.2)) := by
  unfold eRefM
  rw [Okk_eBind]
  constructor <;> intro h <;> refine h.mono fun d ρ M q => ?_
  · cases d <;> first | exact q.elim | skip
    rename_i i
    simp only [Okk_ite] at q
    cases e0 : M[i]? with
    | none => rw [e0] at q; exact (by simpa using q : False).elim
    | some o =>
      cases o with
      | dct _ _ => rw [e0] at q; exact (by simpa using q : False).elim
      | lst ds0 =>
        simp only [e0, if_pos] at q
        refine ⟨i, ds0, rfl, e0, ?_⟩
        rw [Okk_bind] at q
        refine q.mono fun xs ρ M q => ?_
        split at q
        · rename_i ds e
          split at q
          · rename_i z ds' e2; exact ⟨ds, e, (z, ds'), e2, q⟩
          · exact q.elim
        · exact q.elim
  · obtain ⟨i, ds0, rfl, e0, q⟩ := q
    simp only [Okk_ite, e0, if_pos]
    rw [Okk_bind]
    refine q.mono fun xs ρ M ⟨ds, e, ⟨z, ds'⟩, e2, q⟩ => ?_
    simp only [e, e2]
    exact q
@[simp] theorem Okk_sPut {F G V' : E D} : (sPut F G V' ρ M).Okk P ↔ (V' ρ M).Okk fun x ρ M => (F ρ M).Okk fun d ρ M => (G ρ M).Okk fun y ρ M => (putRef d y x ρ M).Okk P := by
  unfold sPut; simp only [Okk_thn]
@[simp] theorem Okk_pairs0 {Q : List Key × List D → Rho → Mem → Prop} : (ePairs [] ρ M).Okk Q ↔ Q ([], []) ρ M := Iff.rfl
@[simp] theorem Okk_pairs1 {K V : E D} {r : List (E D × E D)} {Q : List Key × List D → Rho → Mem → Prop} : (ePairs ((K, V) :: r) ρ M).Okk Q ↔ (K ρ M).Okk fun k ρ M => (V ρ M).Okk fun v ρ M => (ePairs r ρ M).Okk fun ps ρ M => ∃ q, keyOf k = some q ∧ Q (q :: ps.1, v :: ps.2) ρ M := by
  simp only [ePairs, Okk_eBind]
  constructor <;> intro h <;> refine h.mono fun k ρ M q1 => q1.mono fun v ρ M q2 => q2.mono fun ps ρ M q3 => ?_
  · cases e : keyOf k with
    | none => rw [e] at q3; exact q3.elim
    | some q => rw [e] at q3; exact ⟨q, rfl, q3⟩
  · obtain ⟨q, e, q4⟩ := q3
    rw [e]; exact q4
@[simp] theorem Okk_eDisp {l : List (E D × E D)} {Q : List Key × List D → Rho → Mem → Prop} : (eDisp l ρ M).Okk Q ↔ (ePairs l ρ M).Okk fun kd ρ M => kd.1.length ≤ 15 ∧ Q (mergeD [] [] kd.1 kd.2) ρ M := by
  unfold eDisp; simp only [Okk_eBind, Okk_iteE, Okk_eOk, Okk_eStuck]
  constructor <;> intro h <;> refine h.mono fun d ρ M q => ?_
  · split at q
    · exact ⟨by assumption, q⟩
    · exact q.elim
  · rw [if_pos q.1]; exact q.2
/-! ### loops -/
theorem for_okk {pt : Pt} {B : FS} {ds : List D} (Iv : Nat → Rho → Mem → Prop) (h0 : Iv 0 ρ M) (hs : ∀ i d ρ M, ds[i]? = some d → Iv i ρ M → ∃ ρ1, bindP pt d ρ = some ρ1 ∧ (B ρ1 M).Okk ⟨Iv (i + 1), P.rt, Iv (i + 1), P.nx⟩)
    (he : ∀ ρ M, Iv ds.length ρ M → P.nx ρ M) : (forGo pt B ds ρ M).Okk P := by
  induction ds generalizing ρ M Iv with
  | nil => exact he _ _ h0
  | cons d ds ih =>
    obtain ⟨ρ1, e, h⟩ := hs 0 d ρ M rfl h0
    simp only [forGo, e]
    have go : ∀ ρ M, Iv 1 ρ M → (forGo pt B ds ρ M).Okk P := fun ρ M h1 => ih (fun i => Iv (i + 1)) h1 (fun i d ρ M ei hi => hs (i + 1) d ρ M (by simpa using ei) hi) fun ρ M h => he ρ M (by simpa using h)
    cases eb : B ρ1 M with
    | nx ρ2 M2 => rw [eb] at h; exact go _ _ h
    | cnt ρ2 M2 => rw [eb] at h; exact go _ _ h
    | brk ρ2 M2 => rw [eb] at h; exact h
    | ret v ρ2 M2 => rw [eb] at h; exact h
    | exc n t ρ2 M2 => rw [eb] at h; exact h
    | stuck => rw [eb] at h; exact h
@[simp] theorem Okk_sFor {S : E (List D)} {pt : Pt} {B : FS} : (sFor S pt B ρ M).Okk P ↔ (S ρ M).Okk fun ds ρ M => (forGo pt B ds ρ M).Okk P := by unfold sFor; exact Okk_thn
theorem wipeR_idem {vs : List Nat} : wipeR (wipeR ρ vs) vs = wipeR ρ vs := by
  apply List.ext_getElem?
  intro j
  by_cases hj : j ∈ vs
  · by_cases hl : j < ρ.length
    · rw [wipeR_in hj (by rw [wipeR_length]; exact hl), wipeR_in hj hl]
    · rw [List.getElem?_eq_none (by simp only [wipeR_length]; omega), List.getElem?_eq_none (by simp only [wipeR_length]; omega)]
  · rw [wipeR_out hj]
theorem back_eq {ρ' : Rho} {vs : List Nat} (h : wipeR ρ' vs = wipeR ρ vs) : backR ρ ρ' vs = ρ := by
  have hl : ρ'.length = ρ.length := by rw [← wipeR_length ρ' vs, h, wipeR_length]
  apply List.ext_getElem?
  intro j
  by_cases hj : j ∈ vs
  · exact backR_in hl hj
  · rw [backR_out hj, ← wipeR_out (ρ := ρ') hj, h, wipeR_out hj]
theorem compGo_okk {vs : List Nat} {pt : Pt} {C : E Bool} {T : E α} {ds : List D} {w : Rho} (Iv : Nat → List α → Mem → Prop) {acc : List α} (hw : wipeR ρ vs = w) (h0 : Iv 0 acc M)
    (hs : ∀ i d acc M, ds[i]? = some d → Iv i acc M → ∃ ρ1, bindP pt d w = some ρ1 ∧ (C ρ1 M).Okk fun b ρ2 M2 => if b = true then (T ρ2 M2).Okk fun x ρ3 M3 => wipeR ρ3 vs = w ∧ Iv (i + 1) (acc ++ [x]) M3 else wipeR ρ2 vs = w ∧ Iv (i + 1) acc M2)
    {Q : List α → Rho → Mem → Prop} (he : ∀ xs ρ M, wipeR ρ vs = w → Iv ds.length (acc ++ xs) M → Q xs ρ M) : (compGo vs pt C T ds ρ M).Okk Q := by
  induction ds generalizing ρ M Iv acc Q with
  | nil => exact he [] _ _ hw (by simpa using h0)
  | cons d ds ih =>
    obtain ⟨ρ1, e, h⟩ := hs 0 d acc M rfl h0
    simp only [compGo, hw, e]
    rw [Okk_bind, Okk_noExc]
    refine h.mono fun b ρ2 M2 q => ?_
    by_cases hb : b = true
    · rw [if_pos hb] at q ⊢
      rw [Okk_bind, Okk_noExc]
      refine q.mono fun x ρ3 M3 ⟨w3, i3⟩ => ?_
      rw [Okk_bind]
      exact ih (fun i => Iv (i + 1)) w3 i3 (fun i d acc M ei hi => hs (i + 1) d acc M (by simpa using ei) hi) fun xs ρ M hw' hi => he (x :: xs) ρ M hw' (by simpa using hi)
    · rw [if_neg hb] at q ⊢
      exact ih (fun i => Iv (i + 1)) q.1 q.2 (fun i d acc M ei hi => hs (i + 1) d acc M (by simpa using ei) hi) fun xs ρ M hw' hi => he xs ρ M hw' (by simpa using hi)
/-- a comprehension, turn by turn -/
theorem comp_okk {vs : List Nat} {S : E (List D)} {pt : Pt} {C : E Bool} {T : E D} {Q : List D → Rho → Mem → Prop}
    (h : (S ρ M).Okk fun ds ρ M => ∃ Iv : Nat → List D → Mem → Prop, Iv 0 [] M ∧ (∀ i d acc M, ds[i]? = some d → Iv i acc M → ∃ ρ1, bindP pt d (wipeR ρ vs) = some ρ1 ∧ (C ρ1 M).Okk fun b ρ2 M2 => if b = true then (T ρ2 M2).Okk fun x ρ3 M3 => wipeR ρ3 vs = wipeR ρ vs ∧ Iv (i + 1) (acc ++ [x]) M3 else wipeR ρ2 vs = wipeR ρ vs ∧ Iv (i + 1) acc M2) ∧
      ∀ xs M, Iv ds.length xs M → Q xs ρ M) : (eComp vs S pt C T ρ M).Okk Q := by
  unfold eComp
  rw [Okk_eBind]
  refine h.mono fun ds ρ M ⟨Iv, h0, hs, he⟩ => ?_
  rw [Okk_bind, Okk_noExc]
  refine compGo_okk Iv rfl h0 hs fun xs ρ' M' hw hi => ?_
  rw [Okk_ok, back_eq hw]
  exact he xs M' (by simpa using hi)
theorem take_snoc {γ : Type} {l : List γ} {i : Nat} {x : γ} (h : l[i]? = some x) : l.take (i + 1) = l.take i ++ [x] := by
  rw [List.take_add_one, h]; rfl
theorem compGo_purek {vs : List Nat} {pt : Pt} {C : E Bool} {T : E α} {ds : List D} {w : Rho} (p : D → Bool) (f : D → α) (hw : wipeR ρ vs = w)
    (hs : ∀ d, d ∈ ds → ∃ ρ1, bindP pt d w = some ρ1 ∧ (C ρ1 M).Okk fun b ρ2 M2 => (b = p d ∧ M2 = M) ∧ if p d = true then (T ρ2 M2).Okk fun x ρ3 M3 => wipeR ρ3 vs = w ∧ x = f d ∧ M3 = M else wipeR ρ2 vs = w)
    {Q : List α → Rho → Mem → Prop} (he : ∀ ρ, wipeR ρ vs = w → Q ((ds.filter p).map f) ρ M) : (compGo vs pt C T ds ρ M).Okk Q := by
  refine compGo_okk (w := w) (acc := []) (fun i acc M' => M' = M ∧ acc = ((ds.take i).filter p).map f) hw ⟨rfl, by simp⟩ (fun i d acc M' ei ⟨hm, ha⟩ => ?_) fun xs ρ M' hw' ⟨hm, ha⟩ => ?_
  · subst hm
    obtain ⟨ρ1, e, h⟩ := hs d (List.mem_of_getElem? ei)
    refine ⟨ρ1, e, h.mono fun b ρ2 M2 ⟨⟨hb, hm⟩, q⟩ => ?_⟩
    subst hb hm
    by_cases hp : p d = true
    · rw [if_pos hp] at q ⊢
      refine q.mono fun x ρ3 M3 ⟨w3, hx, hm⟩ => ⟨w3, hm, ?_⟩
      rw [take_snoc ei, List.filter_append, List.map_append, ha, hx]
      simp [hp]
    · rw [if_neg hp] at q ⊢
      refine ⟨q, rfl, ?_⟩
      rw [take_snoc ei, List.filter_append, List.map_append, ha]
      simp [hp]
  · subst hm
    rw [List.nil_append, List.take_length] at ha
    rw [ha]
    exact he ρ hw'
/-- a comprehension that only reads -/
theorem comp_purek {vs : List Nat} {S : E (List D)} {pt : Pt} {C : E Bool} {T : E D} {Q : List D → Rho → Mem → Prop}
    (h : (S ρ M).Okk fun ds ρ M => ∃ (p : D → Bool) (f : D → D), (∀ d, d ∈ ds → ∃ ρ1, bindP pt d (wipeR ρ vs) = some ρ1 ∧ (C ρ1 M).Okk fun b ρ2 M2 => (b = p d ∧ M2 = M) ∧ if p d = true then (T ρ2 M2).Okk fun x ρ3 M3 => wipeR ρ3 vs = wipeR ρ vs ∧ x = f d ∧ M3 = M else wipeR ρ2 vs = wipeR ρ vs) ∧
      Q ((ds.filter p).map f) ρ M) : (eComp vs S pt C T ρ M).Okk Q := by
  unfold eComp
  rw [Okk_eBind]
  refine h.mono fun ds ρ M ⟨p, f, hs, he⟩ => ?_
  rw [Okk_bind, Okk_noExc]
  refine compGo_purek p f rfl hs fun ρ' hw => ?_
  rw [Okk_ok, back_eq hw]
  exact he
theorem while_okk {T : E Bool} {B : FS} (Iv : Nat → Rho → Mem → Prop) (n : Nat) (hs : ∀ m ρ M, Iv m ρ M → (T ρ M).Okk fun b ρ1 M1 => if b = true then ∃ k, m = k + 1 ∧ (B ρ1 M1).Okk ⟨Iv k, P.rt, Iv k, P.nx⟩ else P.nx ρ1 M1) :
    ∀ m, m < n → Iv m ρ M → (whileGo T B n ρ M).Okk P := by
  induction n generalizing ρ M with
  | zero => intro m hm; omega
  | succ n ih =>
    intro m hm hi
    simp only [whileGo]
    rw [Okk_thn]
    refine (hs m ρ M hi).mono fun b ρ1 M1 q => ?_
    by_cases hb : b = true
    · rw [if_pos hb] at q ⊢
      obtain ⟨k, ek, h⟩ := q
      have go : ∀ ρ M, Iv k ρ M → (whileGo T B n ρ M).Okk P := fun ρ M h => ih k (by omega) h
      cases eb : B ρ1 M1 with
      | nx ρ2 M2 => rw [eb] at h; exact go _ _ h
      | cnt ρ2 M2 => rw [eb] at h; exact go _ _ h
      | brk ρ2 M2 => rw [eb] at h; exact h
      | ret v ρ2 M2 => rw [eb] at h; exact h
      | exc n t ρ2 M2 => rw [eb] at h; exact h
      | stuck => rw [eb] at h; exact h
    · rw [if_neg hb] at q ⊢
      exact q
end

@[irreducible] def R.Ok {α : Type} (r : R α) (Q : α → Rho → Mem → Prop) : Prop := r.Okk Q
@[irreducible] def Oc.Ok (o : Oc) (P : Post) : Prop := o.Okk P
@[irreducible] def Fn.Ok (G : Fn) (ds : List D) (M : Mem) (Q : D → Mem → Prop) : Prop := Fn.Okk G ds M Q
theorem eR {α : Type} : @R.Ok α = @R.Okk α := by funext r Q; unfold R.Ok; rfl
theorem eO : Oc.Ok = Oc.Okk := by funext r Q; unfold Oc.Ok; rfl
theorem eF : Fn.Ok = Fn.Okk := by funext a b c d; unfold Fn.Ok; rfl
section
variable {α β : Type} {ρ : Rho} {M : Mem} {Q : α → Rho → Mem → Prop} {P : Post}
@[simp] theorem Ok_ok {a : α} : (R.ok a ρ M).Ok Q ↔ Q a ρ M := by
  simp only [eR, eO, eF]
  exact Okk_ok
@[simp] theorem Ok_stuck : (R.stuck : R α).Ok Q ↔ False := by
  simp only [eR, eO, eF]
  exact Okk_stuck
@[simp] theorem Ok_exc {n : Str} {t : D} : (R.exc n t ρ M : R α).Ok Q ↔ False := by
  simp only [eR, eO, eF]
  exact Okk_exc
theorem R.Ok.mono {r : R α} {Q' : α → Rho → Mem → Prop} (h : r.Ok Q) (i : ∀ a ρ M, Q a ρ M → Q' a ρ M) : r.Ok Q' := by
  simp only [eR, eO, eF] at *
  exact R.Okk.mono h i
theorem R.Ok.is {r : R α} (h : r.Ok Q) : ∃ a ρ M, r = .ok a ρ M ∧ Q a ρ M := by
  simp only [eR, eO, eF] at *
  exact R.Okk.is h
@[simp] theorem Ok_bind {r : R α} {f : α → Rho → Mem → R β} {Q : β → Rho → Mem → Prop} : (r.bind f).Ok Q ↔ r.Ok fun a ρ M => (f a ρ M).Ok Q := by
  simp only [eR, eO, eF]
  exact Okk_bind
@[simp] theorem Ok_noExc {r : R α} : r.noExc.Ok Q ↔ r.Ok Q := by
  simp only [eR, eO, eF]
  exact Okk_noExc
@[simp] theorem Ok_eBind {F : E α} {G : α → E β} {Q : β → Rho → Mem → Prop} : (eBind F G ρ M).Ok Q ↔ (F ρ M).Ok fun a ρ M => (G a ρ M).Ok Q := by
  simp only [eR, eO, eF]
  exact Okk_eBind
@[simp] theorem Ok_eOk {a : α} : (eOk a ρ M).Ok Q ↔ Q a ρ M := by
  simp only [eR, eO, eF]
  exact Okk_eOk
@[simp] theorem Ok_eStuck : ((eStuck : E α) ρ M).Ok Q ↔ False := by
  simp only [eR, eO, eF]
  exact Okk_eStuck
@[simp] theorem Ok_eMap {f : α → β} {F : E α} {Q : β → Rho → Mem → Prop} : (eMap f F ρ M).Ok Q ↔ (F ρ M).Ok fun a ρ M => Q (f a) ρ M := by
  simp only [eR, eO, eF]
  exact Okk_eMap
theorem Ok_ite {c : Prop} [Decidable c] {a b : R α} : (if c then a else b).Ok Q ↔ if c then a.Ok Q else b.Ok Q := by
  simp only [eR, eO, eF]
  exact Okk_ite
@[simp] theorem Ok_iteE {c : Prop} [Decidable c] {a b : E α} : ((if c then a else b) ρ M).Ok Q ↔ if c then (a ρ M).Ok Q else (b ρ M).Ok Q := by
  simp only [eR, eO, eF]
  exact Okk_iteE
@[simp] theorem Ok_thn {r : R α} {f : α → FS} : (r.thn f).Ok P ↔ r.Ok fun a ρ M => (f a ρ M).Ok P := by
  simp only [eR, eO, eF]
  exact Okk_thn
@[simp] theorem Ok_nx : (Oc.nx ρ M).Ok P ↔ P.nx ρ M := by
  simp only [eR, eO, eF]
  exact Okk_nx
@[simp] theorem Ok_ret {d : D} : (Oc.ret d ρ M).Ok P ↔ P.rt d M := by
  simp only [eR, eO, eF]
  exact Okk_ret
@[simp] theorem Ok_cnt : (Oc.cnt ρ M).Ok P ↔ P.ct ρ M := by
  simp only [eR, eO, eF]
  exact Okk_cnt
@[simp] theorem Ok_brk : (Oc.brk ρ M).Ok P ↔ P.bk ρ M := by
  simp only [eR, eO, eF]
  exact Okk_brk
@[simp] theorem Ok_stuckS : Oc.stuck.Ok P ↔ False := by
  simp only [eR, eO, eF]
  exact Okk_stuckS
@[simp] theorem Ok_excS {n : Str} {t : D} : (Oc.exc n t ρ M).Ok P ↔ False := by
  simp only [eR, eO, eF]
  exact Okk_excS
theorem Oc.Ok.mono {o : Oc} {P' : Post} (h : o.Ok P) (h1 : ∀ ρ M, P.nx ρ M → P'.nx ρ M) (h2 : ∀ d M, P.rt d M → P'.rt d M) (h3 : ∀ ρ M, P.ct ρ M → P'.ct ρ M) (h4 : ∀ ρ M, P.bk ρ M → P'.bk ρ M) : o.Ok P' := by
  simp only [eR, eO, eF] at *
  exact Oc.Okk.mono h h1 h2 h3 h4
@[simp] theorem Ok_seq {A B : FS} : (sSeq A B ρ M).Ok P ↔ (A ρ M).Ok { P with nx := fun ρ M => (B ρ M).Ok P } := by
  simp only [eR, eO, eF]
  exact Okk_seq
@[simp] theorem Ok_sNx : (sNx ρ M).Ok P ↔ P.nx ρ M := by
  simp only [eR, eO, eF]
  exact Okk_sNx
@[simp] theorem Ok_sDrop {F : E D} : (sDrop F ρ M).Ok P ↔ (F ρ M).Ok fun _ ρ M => P.nx ρ M := by
  simp only [eR, eO, eF]
  exact Okk_sDrop
@[simp] theorem Ok_sRet {F : E D} : (sRet F ρ M).Ok P ↔ (F ρ M).Ok fun d _ M => P.rt d M := by
  simp only [eR, eO, eF]
  exact Okk_sRet
theorem Ok_iteS {c : Prop} [Decidable c] {a b : FS} : ((if c then a else b) ρ M).Ok P ↔ if c then (a ρ M).Ok P else (b ρ M).Ok P := by
  simp only [eR, eO, eF]
  exact Okk_iteS
@[simp] theorem Ok_sIf {T : E Bool} {A B : FS} : (sIf T A B ρ M).Ok P ↔ (T ρ M).Ok fun b ρ M => if b = true then (A ρ M).Ok P else (B ρ M).Ok P := by
  simp only [eR, eO, eF]
  exact Okk_sIf
@[simp] theorem Ok_sSet {pt : Pt} {F : E D} : (sSet pt F ρ M).Ok P ↔ (F ρ M).Ok fun d ρ M => ∃ ρ', bindP pt d ρ = some ρ' ∧ P.nx ρ' M := by
  simp only [eR, eO, eF]
  exact Okk_sSet
@[simp] theorem Ok_sOwn {i : Nat} {L : E (List D)} : (sOwn i L ρ M).Ok P ↔ (L ρ M).Ok fun ds ρ M => i < ρ.length ∧ P.nx (ρ.set i (.own (.lst ds))) M := by
  simp only [eR, eO, eF]
  exact Okk_sOwn
@[simp] theorem Ok_sPar {js : List Nat} {L : E (List Itm)} : (sPar js L ρ M).Ok P ↔ (L ρ M).Ok fun is ρ M => ∃ ρ', setIs js is ρ = some ρ' ∧ P.nx ρ' M := by
  simp only [eR, eO, eF]
  exact Okk_sPar
theorem Ok_set1 {i : Nat} {F : E D} : (sSet (.nm i) F ρ M).Ok P ↔ (F ρ M).Ok fun d ρ M => P.nx (ρ.set i (.val d)) M := by
  simp only [eR, eO, eF]
  exact Okk_set1
@[simp] theorem Ok_eVar {i : Nat} {Q : D → Rho → Mem → Prop} : (eVar i ρ M).Ok Q ↔ ∃ d, ρ[i]? = some (.val d) ∧ Q d ρ M := by
  simp only [eR, eO, eF]
  exact Okk_eVar
@[simp] theorem Ok_optE {o : Option D} {Q : D → Rho → Mem → Prop} : (optE o ρ M).Ok Q ↔ ∃ d, o = some d ∧ Q d ρ M := by
  simp only [eR, eO, eF]
  exact Okk_optE
@[simp] theorem Ok_optB {o : Option Bool} {Q : Bool → Rho → Mem → Prop} : (optB o ρ M).Ok Q ↔ ∃ d, o = some d ∧ Q d ρ M := by
  simp only [eR, eO, eF]
  exact Okk_optB
@[simp] theorem Ok_optL {o : Option (List D)} {Q : List D → Rho → Mem → Prop} : (optL o ρ M).Ok Q ↔ ∃ d, o = some d ∧ Q d ρ M := by
  simp only [eR, eO, eF]
  exact Okk_optL
@[simp] theorem Ok_eOp {g : D → D → Option D} {F G : E D} {Q : D → Rho → Mem → Prop} : (eOp g F G ρ M).Ok Q ↔ (F ρ M).Ok fun a ρ M => (G ρ M).Ok fun b ρ M => ∃ d, g a b = some d ∧ Q d ρ M := by
  simp only [eR, eO, eF]
  exact Okk_eOp
@[simp] theorem Ok_eUn {g : D → Option D} {F : E D} {Q : D → Rho → Mem → Prop} : (eUn g F ρ M).Ok Q ↔ (F ρ M).Ok fun a ρ M => ∃ d, g a = some d ∧ Q d ρ M := by
  simp only [eR, eO, eF]
  exact Okk_eUn
@[simp] theorem Ok_eB {F : E D} {Q : Bool → Rho → Mem → Prop} : (eB F ρ M).Ok Q ↔ (F ρ M).Ok fun a ρ M => ∃ d, isB a = some d ∧ Q d ρ M := by
  simp only [eR, eO, eF]
  exact Okk_eB
@[simp] theorem Ok_eT {F : E D} {Q : Bool → Rho → Mem → Prop} : (eT F ρ M).Ok Q ↔ (F ρ M).Ok fun a ρ M => ∃ d, truth a = some d ∧ Q d ρ M := by
  simp only [eR, eO, eF]
  exact Okk_eT
@[simp] theorem Ok_eIsi {n : String} {F : E D} {Q : D → Rho → Mem → Prop} : (eIsi n F ρ M).Ok Q ↔ (F ρ M).Ok fun a ρ M => ∃ d, isiD n a = some d ∧ Q d ρ M := by
  simp only [eR, eO, eF]
  exact Okk_eIsi
@[simp] theorem Ok_bAnd {F G : E Bool} {Q : Bool → Rho → Mem → Prop} : (bAnd F G ρ M).Ok Q ↔ (F ρ M).Ok fun b ρ M => if b = true then (G ρ M).Ok Q else Q false ρ M := by
  simp only [eR, eO, eF]
  exact Okk_bAnd
@[simp] theorem Ok_bOr {F G : E Bool} {Q : Bool → Rho → Mem → Prop} : (bOr F G ρ M).Ok Q ↔ (F ρ M).Ok fun b ρ M => if b = true then Q true ρ M else (G ρ M).Ok Q := by
  simp only [eR, eO, eF]
  exact Okk_bOr
@[simp] theorem Ok_bNot {F : E Bool} {Q : Bool → Rho → Mem → Prop} : (bNot F ρ M).Ok Q ↔ (F ρ M).Ok fun b ρ M => Q (!b) ρ M := by
  simp only [eR, eO, eF]
  exact Okk_bNot
@[simp] theorem Ok_eAndV {F G : E D} {Q : D → Rho → Mem → Prop} : (eAndV F G ρ M).Ok Q ↔ (F ρ M).Ok fun d ρ M => ∃ b, truth d = some b ∧ if b = true then (G ρ M).Ok Q else Q d ρ M := by
  simp only [eR, eO, eF]
  exact Okk_eAndV
@[simp] theorem Ok_eOrV {F G : E D} {Q : D → Rho → Mem → Prop} : (eOrV F G ρ M).Ok Q ↔ (F ρ M).Ok fun d ρ M => ∃ b, truth d = some b ∧ if b = true then Q d ρ M else (G ρ M).Ok Q := by
  simp only [eR, eO, eF]
  exact Okk_eOrV
@[simp] theorem Ok_eNotV {F : E D} {Q : D → Rho → Mem → Prop} : (eNotV F ρ M).Ok Q ↔ (F ρ M).Ok fun d ρ M => ∃ b, truth d = some b ∧ Q (.bl (!b)) ρ M := by
  simp only [eR, eO, eF]
  exact Okk_eNotV
@[simp] theorem Ok_eIf {T : E Bool} {F G : E D} {Q : D → Rho → Mem → Prop} : (eIf T F G ρ M).Ok Q ↔ (T ρ M).Ok fun b ρ M => if b = true then (F ρ M).Ok Q else (G ρ M).Ok Q := by
  simp only [eR, eO, eF]
  exact Okk_eIf
@[simp] theorem Ok_eNil {Q : List D → Rho → Mem → Prop} : (eNil ρ M).Ok Q ↔ Q [] ρ M := by
  simp only [eR, eO, eF]
  exact Okk_eNil
@[simp] theorem Ok_eCons {F : E D} {G : E (List D)} {Q : List D → Rho → Mem → Prop} : (eCons F G ρ M).Ok Q ↔ (F ρ M).Ok fun d ρ M => (G ρ M).Ok fun ds ρ M => Q (d :: ds) ρ M := by
  simp only [eR, eO, eF]
  exact Okk_eCons
@[simp] theorem Ok_eStar {F G : E (List D)} {Q : List D → Rho → Mem → Prop} : (eStar F G ρ M).Ok Q ↔ (F ρ M).Ok fun xs ρ M => (G ρ M).Ok fun ys ρ M => Q (xs ++ ys) ρ M := by
  simp only [eR, eO, eF]
  exact Okk_eStar
@[simp] theorem Ok_eTup {L : E (List D)} {Q : D → Rho → Mem → Prop} : (eTup L ρ M).Ok Q ↔ (L ρ M).Ok fun ds ρ M => ds.length ≤ sizeLine ∧ Q (.tup ds) ρ M := by
  simp only [eR, eO, eF]
  exact Okk_eTup
@[simp] theorem Ok_eLst {L : E (List D)} {Q : List D → Rho → Mem → Prop} : (eLst L ρ M).Ok Q ↔ (L ρ M).Ok fun ds ρ M => ds.length ≤ sizeLine ∧ Q ds ρ M := by
  simp only [eR, eO, eF]
  exact Okk_eLst
@[simp] theorem Ok_eCat {L L' : E (List D)} {Q : List D → Rho → Mem → Prop} : (eCat L L' ρ M).Ok Q ↔ (L ρ M).Ok fun xs ρ M => (L' ρ M).Ok fun ys ρ M => xs.length + ys.length ≤ sizeLine ∧ Q (xs ++ ys) ρ M := by
  simp only [eR, eO, eF]
  exact Okk_eCat
@[simp] theorem Ok_eOwn {i : Nat} {Q : List D → Rho → Mem → Prop} : (eOwn i ρ M).Ok Q ↔ ∃ ds, ρ[i]? = some (.own (.lst ds)) ∧ Q ds ρ M := by
  simp only [eR, eO, eF]
  exact Okk_eOwn
@[simp] theorem Ok_eGive {i : Nat} {Q : D → Rho → Mem → Prop} : (eGive i ρ M).Ok Q ↔ ∃ ds, ρ[i]? = some (.own (.lst ds)) ∧ Q (.lst ds) (ρ.set i (.val (.lst ds))) M := by
  simp only [eR, eO, eF]
  exact Okk_eGive
@[simp] theorem Ok_oNo {Q : Option Int → Rho → Mem → Prop} : (oNo ρ M).Ok Q ↔ Q none ρ M := by
  simp only [eR, eO, eF]
  exact Okk_oNo
@[simp] theorem Ok_oInt {F : E D} {Q : Option Int → Rho → Mem → Prop} : (oInt F ρ M).Ok Q ↔ (F ρ M).Ok fun d ρ M => ∃ i, d = .int i ∧ Q (some i) ρ M := by
  simp only [eR, eO, eF]
  exact Okk_oInt
@[simp] theorem Ok_eSlF {F : E D} {A B : E (Option Int)} {Q : List D → Rho → Mem → Prop} : (eSlF F A B ρ M).Ok Q ↔ (F ρ M).Ok fun d ρ M => (A ρ M).Ok fun l ρ M => (B ρ M).Ok fun h ρ M => ∃ ds, d = .lst ds ∧ Q (cutD ds l h) ρ M := by
  simp only [eR, eO, eF]
  exact Okk_eSlF
@[simp] theorem Ok_eSlT {F : E D} {A B : E (Option Int)} {Q : D → Rho → Mem → Prop} : (eSlT F A B ρ M).Ok Q ↔ (F ρ M).Ok fun d ρ M => (A ρ M).Ok fun l ρ M => (B ρ M).Ok fun h ρ M => (match d with
    | .tup ds => Q (.tup (cutD ds l h)) ρ M
    | .str z => z.length ≤ sizeLine ∧ Q (.str (cutS z l h)) ρ M
    | _ => False) := by
  simp only [eR, eO, eF]
  exact Okk_eSlT
@[simp] theorem Ok_mNil {Q : List Itm → Rho → Mem → Prop} : (mNil ρ M).Ok Q ↔ Q [] ρ M := by
  simp only [eR, eO, eF]
  exact Okk_mNil
@[simp] theorem Ok_mVal {F : E D} {G : E (List Itm)} {Q : List Itm → Rho → Mem → Prop} : (mVal F G ρ M).Ok Q ↔ (F ρ M).Ok fun d ρ M => (G ρ M).Ok fun is ρ M => Q (.v d :: is) ρ M := by
  simp only [eR, eO, eF]
  exact Okk_mVal
@[simp] theorem Ok_mNew {L : E (List D)} {G : E (List Itm)} {Q : List Itm → Rho → Mem → Prop} : (mNew L G ρ M).Ok Q ↔ (L ρ M).Ok fun d ρ M => (G ρ M).Ok fun is ρ M => Q (.n d :: is) ρ M := by
  simp only [eR, eO, eF]
  exact Okk_mNew
@[simp] theorem Ok_eIsNil {neg : Bool} {L : E (List D)} {Q : D → Rho → Mem → Prop} : (eIsNil neg L ρ M).Ok Q ↔ (L ρ M).Ok fun ds ρ M => Q (.bl (if neg then !ds.isEmpty else ds.isEmpty)) ρ M := by
  simp only [eR, eO, eF]
  exact Okk_eIsNil
@[simp] theorem Ok_eSeq {F : E D} {Q : List D → Rho → Mem → Prop} : (eSeq F ρ M).Ok Q ↔ (F ρ M).Ok fun d ρ M => (seqOf d ρ M).Ok Q := by
  simp only [eR, eO, eF]
  exact Okk_eSeq
@[simp] theorem Ok_eLstV {F : E D} {Q : List D → Rho → Mem → Prop} : (eLstV F ρ M).Ok Q ↔ (F ρ M).Ok fun d ρ M => (lstOf d ρ M).Ok Q := by
  simp only [eR, eO, eF]
  exact Okk_eLstV
@[simp] theorem Ok_eIter {F : E D} {Q : List D → Rho → Mem → Prop} : (eIter F ρ M).Ok Q ↔ (F ρ M).Ok fun d ρ M => (iterOf d ρ M).Ok Q := by
  simp only [eR, eO, eF]
  exact Okk_eIter
@[simp] theorem Ok_ePub {L : E (List D)} {Q : D → Rho → Mem → Prop} : (ePub L ρ M).Ok Q ↔ (L ρ M).Ok fun ds ρ M => Q (.ref M.length) ρ (M ++ [.lst ds]) := by
  simp only [eR, eO, eF]
  exact Okk_ePub
@[simp] theorem Ok_eDpub {L : E (List Key × List D)} {Q : D → Rho → Mem → Prop} : (eDpub L ρ M).Ok Q ↔ (L ρ M).Ok fun kd ρ M => Q (.ref M.length) ρ (M ++ [.dct kd.1 kd.2]) := by
  simp only [eR, eO, eF]
  exact Okk_eDpub
@[simp] theorem Ok_callG {G : Fn} {ds : List D} {Q : D → Rho → Mem → Prop} : (callG G ds ρ M).Ok Q ↔ Fn.Ok G ds M fun d M' => Q d ρ M' := by
  simp only [eR, eO, eF]
  exact Okk_callG
@[simp] theorem Ok_eCall {n : Nat} {G : Fn} {L : E (List D)} {Q : D → Rho → Mem → Prop} : (eCall n G L ρ M).Ok Q ↔ (L ρ M).Ok fun ds ρ M => ds.length = n ∧ Fn.Ok G ds M fun d M' => Q d ρ M' := by
  simp only [eR, eO, eF]
  exact Okk_eCall
@[simp] theorem Ok_eCallK {n m : Nat} {idx : List Nat} {G : Fn} {L : E (List D)} {Q : D → Rho → Mem → Prop} : (eCallK n idx m G L ρ M).Ok Q ↔ (L ρ M).Ok fun ds ρ M => (ds.length = m ∧ (pickL idx ds).length = n) ∧ Fn.Ok G (pickL idx ds) M fun d M' => Q d ρ M' := by
  simp only [eR, eO, eF]
  exact Okk_eCallK
@[simp] theorem Ok_body {n : Nat} {B : FS} {ds : List D} {Q : D → Mem → Prop} : Fn.Ok (bodyG n B) ds M Q ↔ (B (startR n ds) M).Ok { nx := fun _ M => Q .non M, rt := Q } := by
  simp only [eR, eO, eF]
  exact Okk_body
theorem Fn.Ok.mono {G : Fn} {ds : List D} {Q Q' : D → Mem → Prop} (h : Fn.Ok G ds M Q) (i : ∀ d M, Q d M → Q' d M) : Fn.Ok G ds M Q' := by
  simp only [eR, eO, eF] at *
  exact Fn.Okk.mono h i
theorem Fn.Ok.is {G : Fn} {ds : List D} {Q : D → Mem → Prop} (h : Fn.Ok G ds M Q) : ∃ d ρ M', G ds M = .ok d ρ M' ∧ Q d M' := by
  simp only [eR, eO, eF] at *
  exact Fn.Okk.is h
theorem Fn.ok_of {G : Fn} {ds : List D} {Q : D → Mem → Prop} {d : D} {M' : Mem} (e : G ds M = .ok d ρ M') (q : Q d M') : Fn.Ok G ds M Q := by
  simp only [eR, eO, eF] at *
  exact Fn.ok_ofk e q
@[simp] theorem Ok_eOwnM {i : Nat} {op : Op1} {L : E (List D)} {Q : D → Rho → Mem → Prop} : (eOwnM i op L ρ M).Ok Q ↔ (ownL ρ i).isSome = true ∧ (L ρ M).Ok fun xs ρ M => ∃ ds, ρ[i]? = some (.own (.lst ds)) ∧ ∃ z, op ds xs = some z ∧ Q z.1 (ρ.set i (.own (.lst z.2))) M := by
  simp only [eR, eO, eF]
  exact Okk_eOwnM
@[simp] theorem Ok_eOwnX {i : Nat} {L : E (List D)} {Q : D → Rho → Mem → Prop} : (eOwnX i L ρ M).Ok Q ↔ (ownL ρ i).isSome = true ∧ (L ρ M).Ok fun xs ρ M => ∃ ds, ρ[i]? = some (.own (.lst ds)) ∧ ds.length + xs.length ≤ sizeLine ∧ Q .non (ρ.set i (.own (.lst (ds ++ xs)))) M := by
  simp only [eR, eO, eF]
  exact Okk_eOwnX
@[simp] theorem Ok_eRefM {F : E D} {op : Op1} {L : E (List D)} {Q : D → Rho → Mem → Prop} : (eRefM F op L ρ M).Ok Q ↔ (F ρ M).Ok fun d ρ M => ∃ i ds0, d = .ref i ∧ M[i]? = some (.lst ds0) ∧ (L ρ M).Ok fun xs ρ M => ∃ ds, M[i]? = some (.lst ds) ∧ ∃ z, op ds xs = some z ∧ Q z.1 ρ (M.set i (.lst z.2)) := by
  simp only [eR, eO, eF]
  exact Okk_eRefM
@[simp] theorem Ok_sPut {F G V' : E D} : (sPut F G V' ρ M).Ok P ↔ (V' ρ M).Ok fun x ρ M => (F ρ M).Ok fun d ρ M => (G ρ M).Ok fun y ρ M => (putRef d y x ρ M).Ok P := by
  simp only [eR, eO, eF]
  exact Okk_sPut
@[simp] theorem Ok_pairs0 {Q : List Key × List D → Rho → Mem → Prop} : (ePairs [] ρ M).Ok Q ↔ Q ([], []) ρ M := by
  simp only [eR, eO, eF]
  exact Okk_pairs0
@[simp] theorem Ok_pairs1 {K V : E D} {r : List (E D × E D)} {Q : List Key × List D → Rho → Mem → Prop} : (ePairs ((K, V) :: r) ρ M).Ok Q ↔ (K ρ M).Ok fun k ρ M => (V ρ M).Ok fun v ρ M => (ePairs r ρ M).Ok fun ps ρ M => ∃ q, keyOf k = some q ∧ Q (q :: ps.1, v :: ps.2) ρ M := by
  simp only [eR, eO, eF]
  exact Okk_pairs1
@[simp] theorem Ok_eDisp {l : List (E D × E D)} {Q : List Key × List D → Rho → Mem → Prop} : (eDisp l ρ M).Ok Q ↔ (ePairs l ρ M).Ok fun kd ρ M => kd.1.length ≤ 15 ∧ Q (mergeD [] [] kd.1 kd.2) ρ M := by
  simp only [eR, eO, eF]
  exact Okk_eDisp
theorem for_ok {pt : Pt} {B : FS} {ds : List D} (Iv : Nat → Rho → Mem → Prop) (h0 : Iv 0 ρ M) (hs : ∀ i d ρ M, ds[i]? = some d → Iv i ρ M → ∃ ρ1, bindP pt d ρ = some ρ1 ∧ (B ρ1 M).Ok ⟨Iv (i + 1), P.rt, Iv (i + 1), P.nx⟩)
    (he : ∀ ρ M, Iv ds.length ρ M → P.nx ρ M) : (forGo pt B ds ρ M).Ok P := by
  simp only [eR, eO, eF] at *
  exact for_okk Iv h0 hs he
@[simp] theorem Ok_sFor {S : E (List D)} {pt : Pt} {B : FS} : (sFor S pt B ρ M).Ok P ↔ (S ρ M).Ok fun ds ρ M => (forGo pt B ds ρ M).Ok P := by
  simp only [eR, eO, eF]
  exact Okk_sFor
theorem compGo_ok {vs : List Nat} {pt : Pt} {C : E Bool} {T : E α} {ds : List D} {w : Rho} (Iv : Nat → List α → Mem → Prop) {acc : List α} (hw : wipeR ρ vs = w) (h0 : Iv 0 acc M)
    (hs : ∀ i d acc M, ds[i]? = some d → Iv i acc M → ∃ ρ1, bindP pt d w = some ρ1 ∧ (C ρ1 M).Ok fun b ρ2 M2 => if b = true then (T ρ2 M2).Ok fun x ρ3 M3 => wipeR ρ3 vs = w ∧ Iv (i + 1) (acc ++ [x]) M3 else wipeR ρ2 vs = w ∧ Iv (i + 1) acc M2)
    {Q : List α → Rho → Mem → Prop} (he : ∀ xs ρ M, wipeR ρ vs = w → Iv ds.length (acc ++ xs) M → Q xs ρ M) : (compGo vs pt C T ds ρ M).Ok Q := by
  simp only [eR, eO, eF] at *
  exact compGo_okk Iv hw h0 hs he
theorem comp_ok {vs : List Nat} {S : E (List D)} {pt : Pt} {C : E Bool} {T : E D} {Q : List D → Rho → Mem → Prop}
    (h : (S ρ M).Ok fun ds ρ M => ∃ Iv : Nat → List D → Mem → Prop, Iv 0 [] M ∧ (∀ i d acc M, ds[i]? = some d → Iv i acc M → ∃ ρ1, bindP pt d (wipeR ρ vs) = some ρ1 ∧ (C ρ1 M).Ok fun b ρ2 M2 => if b = true then (T ρ2 M2).Ok fun x ρ3 M3 => wipeR ρ3 vs = wipeR ρ vs ∧ Iv (i + 1) (acc ++ [x]) M3 else wipeR ρ2 vs = wipeR ρ vs ∧ Iv (i + 1) acc M2) ∧
      ∀ xs M, Iv ds.length xs M → Q xs ρ M) : (eComp vs S pt C T ρ M).Ok Q := by
  simp only [eR, eO, eF] at *
  exact comp_okk h
theorem compGo_pure {vs : List Nat} {pt : Pt} {C : E Bool} {T : E α} {ds : List D} {w : Rho} (p : D → Bool) (f : D → α) (hw : wipeR ρ vs = w)
    (hs : ∀ d, d ∈ ds → ∃ ρ1, bindP pt d w = some ρ1 ∧ (C ρ1 M).Ok fun b ρ2 M2 => (b = p d ∧ M2 = M) ∧ if p d = true then (T ρ2 M2).Ok fun x ρ3 M3 => wipeR ρ3 vs = w ∧ x = f d ∧ M3 = M else wipeR ρ2 vs = w)
    {Q : List α → Rho → Mem → Prop} (he : ∀ ρ, wipeR ρ vs = w → Q ((ds.filter p).map f) ρ M) : (compGo vs pt C T ds ρ M).Ok Q := by
  simp only [eR, eO, eF] at *
  exact compGo_purek p f hw hs he
theorem comp_pure {vs : List Nat} {S : E (List D)} {pt : Pt} {C : E Bool} {T : E D} {Q : List D → Rho → Mem → Prop}
    (h : (S ρ M).Ok fun ds ρ M => ∃ (p : D → Bool) (f : D → D), (∀ d, d ∈ ds → ∃ ρ1, bindP pt d (wipeR ρ vs) = some ρ1 ∧ (C ρ1 M).Ok fun b ρ2 M2 => (b = p d ∧ M2 = M) ∧ if p d = true then (T ρ2 M2).Ok fun x ρ3 M3 => wipeR ρ3 vs = wipeR ρ vs ∧ x = f d ∧ M3 = M else wipeR ρ2 vs = wipeR ρ vs) ∧
      Q ((ds.filter p).map f) ρ M) : (eComp vs S pt C T ρ M).Ok Q := by
  simp only [eR, eO, eF] at *
  exact comp_purek h
theorem while_ok {T : E Bool} {B : FS} (Iv : Nat → Rho → Mem → Prop) (n : Nat) (hs : ∀ m ρ M, Iv m ρ M → (T ρ M).Ok fun b ρ1 M1 => if b = true then ∃ k, m = k + 1 ∧ (B ρ1 M1).Ok ⟨Iv k, P.rt, Iv k, P.nx⟩ else P.nx ρ1 M1) :
    ∀ m, m < n → Iv m ρ M → (whileGo T B n ρ M).Ok P := by
  simp only [eR, eO, eF] at *
  exact while_okk Iv n hs
end
end Dn
-- DnPi
/-! Dn: plain operations on what is known. -/
namespace Dn
open PySem L2
@[simp] theorem ex_pair {α β : Type} {a : α} {b : β} {P : α → β → Prop} : (∃ x y, (a = x ∧ b = y) ∧ P x y) ↔ P a b := ⟨fun ⟨_, _, ⟨rfl, rfl⟩, h⟩ => h, fun h => ⟨_, _, ⟨rfl, rfl⟩, h⟩⟩
@[simp] theorem ex_pair3 {α β : Type} {a : α} {b : β} {c : Prop} {P : α → β → Prop} : (∃ x y, (c ∧ a = x ∧ b = y) ∧ P x y) ↔ c ∧ P a b := ⟨fun ⟨_, _, ⟨hc, rfl, rfl⟩, h⟩ => ⟨hc, h⟩, fun h => ⟨_, _, ⟨h.1, rfl, rfl⟩, h.2⟩⟩
@[simp] theorem size_num : sizeLine = 16777216 := rfl
section
variable {a b : Int} {x y : Str} {ds es : List D} {ρ : Rho} {M : Mem}
theorem fmod_low {i j : Int} (h : 0 < j) : 0 ≤ i.fmod j := Int.fmod_nonneg_of_pos _ h
theorem fmod_high {i j : Int} (h : 0 < j) : i.fmod j < j := Int.fmod_lt_of_pos _ h
@[simp] theorem gAdd_int : gAdd (.int a) (.int b) = some (.int (a + b)) := rfl
@[simp] theorem gSub_int : gSubI (.int a) (.int b) = some (.int (a - b)) := rfl
theorem gMul_l (h : -1000000000000 < a) (h2 : a < 1000000000000) : gMulI (.int a) (.int b) = some (.int (a * b)) := by
  have : CMul a b := .inl ⟨by omega, by omega⟩
  exact if_pos this
theorem gMul_r (h : -1000000000000 < b) (h2 : b < 1000000000000) : gMulI (.int a) (.int b) = some (.int (a * b)) := by
  have : CMul a b := .inr ⟨by omega, by omega⟩
  exact if_pos this
theorem gMul_fmod {c : Int} (h : 0 < c) (h2 : c < 1000000000000) : gMulI (.int (a.fmod c)) (.int b) = some (.int (a.fmod c * b)) := by
  have h3 := fmod_low (i := a) h
  have h4 := fmod_high (i := a) h
  exact gMul_l (by omega) (by omega)
theorem gMod_ok (h : b ≠ 0) : gMod (.int a) (.int b) = some (.int (a.fmod b)) := if_pos h
theorem gFdiv_ok (h : 0 < b) (h2 : b < 1073741824) : gFdiv (.int a) (.int b) = some (.int (a.fdiv b)) := by
  have : CDivN a b := ⟨by omega, by omega⟩
  exact if_pos this
@[simp] theorem gLt_int : gLt (.int a) (.int b) = some (.bl (decide (a < b))) := rfl
@[simp] theorem gLe_int : gLe (.int a) (.int b) = some (.bl (decide (a ≤ b))) := rfl
@[simp] theorem gGt_int : gGt (.int a) (.int b) = some (.bl (decide (b < a))) := rfl
@[simp] theorem gGe_int : gGe (.int a) (.int b) = some (.bl (decide (b ≤ a))) := rfl
@[simp] theorem gNeg_int : gNeg (.int a) = some (.int (-a)) := rfl
@[simp] theorem gPow_1018 : gPow (.int 10) (.int 18) = some (.int 1000000000000000000) := by
  have : CPow 10 18 := ⟨by omega, by omega, by decide⟩
  show (if CPow 10 18 then some (D.int (10 ^ (18 : Int).toNat)) else none) = _
  rw [if_pos this]; rfl
@[simp] theorem fInt_int : fInt [.int a] = some (.int a) := rfl
@[simp] theorem fInt_bl {k : Bool} : fInt [.bl k] = some (.int (if k then 1 else 0)) := rfl
@[simp] theorem fMax2_int : fMax2 [.int a, .int b] = some (.int (if b > a then b else a)) := rfl
@[simp] theorem fMin2_int : fMin2 [.int a, .int b] = some (.int (if b < a then b else a)) := rfl
@[simp] theorem isB_bl {k : Bool} : isB (.bl k) = some k := rfl
@[simp] theorem truth_bl {k : Bool} : truth (.bl k) = some k := rfl
@[simp] theorem keyOf_str : keyOf (.str x) = some (.inr x) := rfl
@[simp] theorem keyOf_int : keyOf (.int a) = some (.inl a) := rfl
@[simp] theorem fLen_eq : fLen ds = some (.int ds.length) := rfl
@[simp] theorem fLenV_tup : fLenV [.tup ds] = some (.int ds.length) := rfl
@[simp] theorem fLenV_lst : fLenV [.lst ds] = some (.int ds.length) := rfl
theorem fLenV_str (h : x.length ≤ 16777216) : fLenV [.str x] = some (.int x.length) := if_pos h
@[simp] theorem gIx_tup : gIx (.tup ds) (.int a) = atI ds a := rfl
@[simp] theorem gIx_lst : gIx (.lst ds) (.int a) = atI ds a := rfl
@[simp] theorem seqOf_tup : seqOf (.tup ds) ρ M = .ok ds ρ M := rfl
@[simp] theorem seqOf_lst : seqOf (.lst ds) ρ M = .ok ds ρ M := rfl
@[simp] theorem lstOf_lst : lstOf (.lst ds) ρ M = .ok ds ρ M := rfl
@[simp] theorem iterOf_lst : iterOf (.lst ds) ρ M = .ok ds ρ M := rfl
@[simp] theorem iterOf_tup : iterOf (.tup ds) ρ M = .ok ds ρ M := rfl
@[simp] theorem frzOf_lst : frzOf (.lst ds) ρ M = .ok ds ρ M := rfl
@[simp] theorem enumOf_tup : enumOf [.tup ds] ρ M = .ok (enumD ds) ρ M := rfl
@[simp] theorem enumOf_lst : enumOf [.lst ds] ρ M = .ok (enumD ds) ρ M := rfl
@[simp] theorem zipOf_tup : zipOf [.tup ds, .tup es] ρ M = .ok (zipD ds es) ρ M := rfl
@[simp] theorem zipOf_lst : zipOf [.lst ds, .lst es] ρ M = .ok (zipD ds es) ρ M := rfl
@[simp] theorem zlOf_tup : zlOf [.tup ds, .tup es] ρ M = .ok (zipD ds es) ρ M := rfl
@[simp] theorem zlOf_lst : zlOf [.lst ds, .lst es] ρ M = .ok (zipD ds es) ρ M := rfl
@[simp] theorem isNon_non : isNon .non = true := rfl
@[simp] theorem isi_t1 : isiD "tuple" (.tup ds) = some (.bl true) := rfl
@[simp] theorem isi_t2 : isiD "tuple" (.lst ds) = some (.bl false) := rfl
@[simp] theorem isi_t3 : isiD "tuple" (.int a) = some (.bl false) := rfl
@[simp] theorem isi_t4 {k : Bool} : isiD "tuple" (.bl k) = some (.bl false) := rfl
@[simp] theorem isi_t5 : isiD "tuple" (.str x) = some (.bl false) := rfl
@[simp] theorem isi_t6 : isiD "tuple" .non = some (.bl false) := rfl
@[simp] theorem isi_l1 : isiD "list" (.tup ds) = some (.bl false) := rfl
@[simp] theorem isi_l2 : isiD "list" (.lst ds) = some (.bl true) := rfl
@[simp] theorem isi_l3 : isiD "list" (.int a) = some (.bl false) := rfl
@[simp] theorem isi_l4 {k : Bool} : isiD "list" (.bl k) = some (.bl false) := rfl
@[simp] theorem isi_l5 : isiD "list" (.str x) = some (.bl false) := rfl
@[simp] theorem isi_l6 : isiD "list" .non = some (.bl false) := rfl
@[simp] theorem isi_i1 : isiD "int" (.tup ds) = some (.bl false) := rfl
@[simp] theorem isi_i2 : isiD "int" (.lst ds) = some (.bl false) := rfl
@[simp] theorem isi_i3 : isiD "int" (.int a) = some (.bl true) := rfl
@[simp] theorem isi_i4 {k : Bool} : isiD "int" (.bl k) = some (.bl true) := rfl
@[simp] theorem isi_i5 : isiD "int" (.str x) = some (.bl false) := rfl
@[simp] theorem isi_i6 : isiD "int" .non = some (.bl false) := rfl
@[simp] theorem isi_b1 : isiD "bool" (.tup ds) = some (.bl false) := rfl
@[simp] theorem isi_b2 : isiD "bool" (.lst ds) = some (.bl false) := rfl
@[simp] theorem isi_b3 : isiD "bool" (.int a) = some (.bl false) := rfl
@[simp] theorem isi_b4 {k : Bool} : isiD "bool" (.bl k) = some (.bl true) := rfl
@[simp] theorem isi_b5 : isiD "bool" (.str x) = some (.bl false) := rfl
@[simp] theorem isi_b6 : isiD "bool" .non = some (.bl false) := rfl
@[simp] theorem isi_s1 : isiD "str" (.tup ds) = some (.bl false) := rfl
@[simp] theorem isi_s2 : isiD "str" (.lst ds) = some (.bl false) := rfl
@[simp] theorem isi_s3 : isiD "str" (.int a) = some (.bl false) := rfl
@[simp] theorem isi_s4 {k : Bool} : isiD "str" (.bl k) = some (.bl false) := rfl
@[simp] theorem isi_s5 : isiD "str" (.str x) = some (.bl true) := rfl
@[simp] theorem isi_s6 : isiD "str" .non = some (.bl false) := rfl
theorem atI_nn {α : Type} {l : List α} {i : Int} (h : 0 ≤ i) : atI l i = l[i.toNat]? := by
  unfold atI ixN
  rw [if_pos h]
  by_cases h1 : i < l.length
  · rw [if_pos h1]; rfl
  · rw [if_neg h1]
    exact (List.getElem?_eq_none (by omega)).symm
@[simp] theorem atI_0 {α : Type} {l : List α} : atI l 0 = l[0]? := atI_nn (by decide)
@[simp] theorem atI_1 {α : Type} {l : List α} : atI l 1 = l[1]? := atI_nn (by decide)
@[simp] theorem atI_2 {α : Type} {l : List α} : atI l 2 = l[2]? := atI_nn (by decide)
@[simp] theorem atI_3 {α : Type} {l : List α} : atI l 3 = l[3]? := atI_nn (by decide)
@[simp] theorem oAppend_1 {d : D} : oAppend ds [d] = if ds.length < 16777216 then some (.non, ds ++ [d]) else none := rfl
theorem oPop_snoc {d : D} : oPop (ds ++ [d]) [] = some (d, ds) := by simp [oPop]
theorem oPopAt_ok {i : Int} {d : D} (h : 0 ≤ i) (h2 : ds[i.toNat]? = some d) (h3 : ds.length < 1000000) : oPopAt ds [.int i] = some (d, ds.eraseIdx i.toNat) := by
  have hl := (List.getElem?_eq_some_iff.mp h2).1
  unfold oPopAt
  simp only []
  rw [if_pos (by omega), show seqIndex? i ds.length = some i.toNat from seqIndex_of h (by omega)]
  show (ds[i.toNat]?).map _ = _
  rw [h2]; rfl
theorem range1_ok {n : Nat} (h : n < 1000000) : fRange1 [.int (n : Int)] = some (rangeD 0 n) := by
  unfold fRange1
  simp only []
  rw [if_pos ⟨by unfold small62; simp only [Bool.and_eq_true, decide_eq_true_eq]; omega, by simp; omega⟩]
  rfl
theorem range1_int {j : Int} (h : 0 ≤ j) (h2 : j < 1000000) : fRange1 [.int j] = some (rangeD 0 j.toNat) := by
  obtain ⟨n, rfl⟩ := Int.eq_ofNat_of_zero_le h
  exact range1_ok (by omega)
theorem rangeD_len {lo : Int} {n : Nat} : (rangeD lo n).length = n := by unfold rangeD; simp
theorem mem_rangeD {n : Nat} {d : D} (h : d ∈ rangeD 0 n) : ∃ i : Nat, i < n ∧ d = .int i := by
  unfold rangeD at h
  rw [List.mem_map] at h
  obtain ⟨i, h1, h2⟩ := h
  exact ⟨i, List.mem_range.mp h1, by rw [← h2, Int.zero_add]⟩
/-- the first so many of a list -/
theorem cut_first {l : List D} {i : Int} (h : 0 ≤ i) : cutD l none (some i) = l.take i.toNat := by
  unfold cutD
  show (l.drop 0).take ((if i < 0 then (i + (l.length : Int)).toNat else min i.toNat l.length) - 0) = _
  rw [if_neg (by omega), List.drop_zero, Nat.sub_zero]
  by_cases hl : i.toNat ≤ l.length
  · rw [Nat.min_eq_left hl]
  · rw [Nat.min_eq_right (by omega), List.take_of_length_le (Nat.le_refl _), List.take_of_length_le (by omega)]
/-- the others of a list -/
theorem cut_rest {l : List D} {i : Int} (h : 0 ≤ i) : cutD l (some i) none = l.drop i.toNat := by
  unfold cutD
  show (l.drop (if i < 0 then (i + (l.length : Int)).toNat else min i.toNat l.length)).take (l.length - (if i < 0 then (i + (l.length : Int)).toNat else min i.toNat l.length)) = _
  rw [if_neg (by omega)]
  by_cases hl : i.toNat ≤ l.length
  · rw [Nat.min_eq_left hl, List.take_of_length_le (by simp)]
  · rw [Nat.min_eq_right (by omega), List.drop_of_length_le (Nat.le_refl _), List.drop_of_length_le (by omega)]; simp
/-- all but the last -/
theorem cut_last {l : List D} : cutD l none (some (-1)) = l.dropLast := by
  unfold cutD
  show (l.drop 0).take ((if (-1 : Int) < 0 then (-1 + (l.length : Int)).toNat else min (-1 : Int).toNat l.length) - 0) = _
  rw [if_pos (by decide), List.drop_zero, Nat.sub_zero, List.dropLast_eq_take]
  congr 1
  omega
end

theorem perm_erase {α : Type} : ∀ {l : List α} {i : Nat} (h : i < l.length), (l[i] :: l.eraseIdx i).Perm l
  | [], _, h => absurd h (by simp)
  | x :: l, 0, _ => by simp
  | x :: l, i + 1, h => by
    have hi : i < l.length := by simpa using h
    simp only [List.getElem_cons_succ, List.eraseIdx_cons_succ]
    exact (List.Perm.swap x l[i] (l.eraseIdx i)).trans ((perm_erase hi).cons x)

/-- a comprehension that only reads: what is let by, what is told -/
theorem comp_pureE {ρ : Rho} {M : Mem} {vs : List Nat} {S : E (List D)} {pt : Pt} {C : E Bool} {T : E D} {Q : List D → Rho → Mem → Prop} (p : D → Bool) (f : D → D)
    (h : (S ρ M).Ok fun ds ρ M => (∀ d, d ∈ ds → ∃ ρ1, bindP pt d (wipeR ρ vs) = some ρ1 ∧ (C ρ1 M).Ok fun b ρ2 M2 => (b = p d ∧ M2 = M) ∧ if p d = true then (T ρ2 M2).Ok fun x ρ3 M3 => wipeR ρ3 vs = wipeR ρ vs ∧ x = f d ∧ M3 = M else wipeR ρ2 vs = wipeR ρ vs) ∧
      Q ((ds.filter p).map f) ρ M) : (eComp vs S pt C T ρ M).Ok Q := comp_pure (h.mono fun _ _ _ q => ⟨p, f, q⟩)
theorem comp_okE {ρ : Rho} {M : Mem} {vs : List Nat} {S : E (List D)} {pt : Pt} {C : E Bool} {T : E D} {Q : List D → Rho → Mem → Prop} (Iv : Nat → List D → Mem → Prop)
    (h : (S ρ M).Ok fun ds ρ M => Iv 0 [] M ∧ (∀ i d acc M, ds[i]? = some d → Iv i acc M → ∃ ρ1, bindP pt d (wipeR ρ vs) = some ρ1 ∧ (C ρ1 M).Ok fun b ρ2 M2 => if b = true then (T ρ2 M2).Ok fun x ρ3 M3 => wipeR ρ3 vs = wipeR ρ vs ∧ Iv (i + 1) (acc ++ [x]) M3 else wipeR ρ2 vs = wipeR ρ vs ∧ Iv (i + 1) acc M2) ∧
      ∀ xs M, Iv ds.length xs M → Q xs ρ M) : (eComp vs S pt C T ρ M).Ok Q := comp_ok (h.mono fun _ _ _ q => ⟨Iv, q⟩)

/-! ### the deck of a law -/
abbrev deckKeys : List Key := [.inr "left", .inr "mixed", .inr "draws"]
def DK (l : List Int) (m d : Int) (R : Mem) : Mem := .lst (l.map .int) :: .dct deckKeys [.ref 0, .int m, .int d] :: R
def Deck (R M : Mem) : Prop := ∃ (left : List Int) (m d : Int), left.length ≤ 63 ∧ M = DK left m d R
section
variable {l l' : List Int} {m d : Int} {R M : Mem} {ρ : Rho} {P : Post}
theorem ks1 : ((("left" : Str) : Str) = "mixed") = False := eq_false (by decide)
theorem ks2 : ((("left" : Str) : Str) = "draws") = False := eq_false (by decide)
theorem ks3 : ((("mixed" : Str) : Str) = "draws") = False := eq_false (by decide)
@[simp] theorem sub_left : subA (.ref 1) (.str "left") ρ (DK l m d R) = .ok (.ref 0) ρ (DK l m d R) := rfl
@[simp] theorem sub_mixed : subA (.ref 1) (.str "mixed") ρ (DK l m d R) = .ok (.int m) ρ (DK l m d R) := rfl
@[simp] theorem sub_draws : subA (.ref 1) (.str "draws") ρ (DK l m d R) = .ok (.int d) ρ (DK l m d R) := rfl
@[simp] theorem put_draws {x : Int} : putRef (.ref 1) (.str "draws") (.int x) ρ (DK l m d R) = .nx ρ (DK l m x R) := rfl
@[simp] theorem lst_left : lstOf (.ref 0) ρ (DK l m d R) = .ok (l.map .int) ρ (DK l m d R) := rfl
@[simp] theorem get_left : (DK l m d R)[0]? = some (.lst (l.map .int)) := rfl
@[simp] theorem set_left : (DK l m d R).set 0 (.lst (l'.map .int)) = DK l' m d R := rfl
@[simp] theorem pop_snoc {ds : List D} {x : D} : oPop (ds ++ [x]) [] = some (x, ds) := oPop_snoc
@[simp] theorem set_left1 {c : Int} : (DK l m d R).set 0 (.lst (l'.map .int ++ [.int c])) = DK (l' ++ [c]) m d R := by simp [DK]
theorem add_left {c : Int} (h : l.length ≤ 63) : oAppend (l.map D.int) [.int c] = some (.non, (l ++ [c]).map .int) := by
  rw [oAppend_1, if_pos (by rw [List.length_map]; omega), List.map_append]; rfl
end
end Dn
-- M07
namespace M7
/-- ways to put n things one to one on a, or nowhere -/
def hw (a : Nat) : Nat → Nat
  | 0 => 1
  | b + 1 => hw a b + a * hw (a - 1) b
section
variable {α : Type} [DecidableEq α]
def less (c : α → Nat) (k : α) : α → Nat := fun x => if x = k then c x - 1 else c x
def cnt (c : α → Nat) : List α → Nat
  | [] => 1
  | k :: ks => cnt c ks + c k * cnt (less c k) ks
def prodL (f : α → Nat) (S : List α) : Nat := (S.map f).foldl (fun a b => a * b) 1
theorem foldl_mul (l : List Nat) : ∀ a : Nat, l.foldl (fun a b => a * b) a = a * l.foldl (fun a b => a * b) 1 := by
  induction l with
  | nil => intro a; simp
  | cons x l ih => intro a; simp only [List.foldl_cons]; rw [ih (a * x), ih (1 * x), Nat.one_mul, Nat.mul_assoc]
theorem prodL_cons (f : α → Nat) (x : α) (S : List α) : prodL f (x :: S) = f x * prodL f S := by
  unfold prodL
  simp only [List.map_cons, List.foldl_cons]
  rw [foldl_mul, Nat.one_mul]
theorem prodL_nil (f : α → Nat) : prodL f [] = 1 := rfl
theorem prodL_congr {f g : α → Nat} : ∀ {S : List α}, (∀ x ∈ S, f x = g x) → prodL f S = prodL g S
  | [], _ => rfl
  | x :: S, h => by rw [prodL_cons, prodL_cons, h x (.head _), prodL_congr fun y hy => h y (.tail _ hy)]
/-- one factor changes -/
theorem prodL_split {f g e : α → Nat} {k : α} : ∀ {S : List α}, S.Nodup → k ∈ S → (∀ x, x ≠ k → e x = f x ∧ g x = f x) → ∀ m : Nat, e k = f k + m * g k → prodL e S = prodL f S + m * prodL g S
  | [], _, h, _, _, _ => by cases h
  | x :: S, nd, h, o, m, q => by
    rw [prodL_cons, prodL_cons, prodL_cons]
    have nd' := List.nodup_cons.mp nd
    by_cases hx : x = k
    · subst hx
      have o2 : ∀ y ∈ S, y ≠ x := fun y hy z => nd'.1 (z ▸ hy)
      rw [prodL_congr (f := e) (g := f) fun y hy => (o y (o2 y hy)).1, prodL_congr (f := g) (g := f) fun y hy => (o y (o2 y hy)).2, q, Nat.add_mul, Nat.mul_assoc]
    · have hk : k ∈ S := by
        rcases List.mem_cons.mp h with z | z
        · exact absurd z.symm hx
        · exact z
      rw [prodL_split nd'.2 hk o m q, (o x hx).1, (o x hx).2, Nat.mul_add, Nat.mul_left_comm]
theorem cnt_prod : ∀ (l : List α) (c : α → Nat) (S : List α), S.Nodup → (∀ x ∈ l, x ∈ S) → cnt c l = prodL (fun k => hw (c k) (l.count k)) S
  | [], c, S, _, _ => by
    unfold cnt
    induction S with
    | nil => rfl
    | cons x S ih => rw [prodL_cons, ← ih (by simp_all) (by simp)]; simp [hw]
  | k :: ks, c, S, nd, h => by
    unfold cnt
    rw [cnt_prod ks c S nd fun x hx => h x (.tail _ hx), cnt_prod ks (less c k) S nd fun x hx => h x (.tail _ hx)]
    refine (prodL_split (k := k) nd (h k (.head _)) (fun x hx => ?_) (c k) ?_).symm
    · refine ⟨?_, ?_⟩
      · show hw (c x) (List.count x (k :: ks)) = hw (c x) (List.count x ks)
        rw [List.count_cons_of_ne (fun z => hx z.symm)]
      · show hw (less c k x) (List.count x ks) = hw (c x) (List.count x ks)
        unfold less; rw [if_neg hx]
    · show hw (c k) (List.count k (k :: ks)) = hw (c k) (List.count k ks) + c k * hw (less c k k) (List.count k ks)
      rw [List.count_cons_self]
      unfold less
      rw [if_pos rfl]
      rfl

/-! ### the rows -/
/-- the numbers of the places of a kind -/
def spots (ps : List α) (k : α) : List Nat := (List.range ps.length).filter fun i => decide (ps[i]? = some k)
def free (ps : List α) (row : List Int) (k : α) : List Nat := (spots ps k).filter fun i => decide ((i : Int) ∉ row)
def ext (ps : List α) (k : α) (row : List Int) : List (List Int) := (row ++ [-1]) :: (free ps row k).map fun (i : Nat) => row ++ [(i : Int)]
def stepR (ps : List α) (L : List (List Int)) (k : α) : List (List Int) := L.flatMap (ext ps k)
def rowsOf (ps : List α) (os : List α) : List (List Int) := os.foldl (stepR ps) [[]]
theorem mem_spots {ps : List α} {k : α} {i : Nat} : i ∈ spots ps k ↔ ps[i]? = some k := by
  unfold spots
  rw [List.mem_filter, List.mem_range, decide_eq_true_eq]
  refine ⟨fun h => h.2, fun h => ⟨?_, h⟩⟩
  by_cases hi : i < ps.length
  · exact hi
  · rw [List.getElem?_eq_none (by omega)] at h; cases h
theorem spots_nodup {ps : List α} {k : α} : (spots ps k).Nodup := List.Nodup.sublist List.filter_sublist List.nodup_range
theorem mem_free {ps : List α} {row : List Int} {k : α} {i : Nat} : i ∈ free ps row k ↔ ps[i]? = some k ∧ (i : Int) ∉ row := by
  unfold free
  rw [List.mem_filter, mem_spots, decide_eq_true_eq]
theorem free_m1 (ps : List α) (row : List Int) (k : α) : free ps (row ++ [-1]) k = free ps row k := by
  unfold free
  apply List.filter_congr
  intro i _
  have : ((i : Int) ∈ row ++ [-1]) ↔ (i : Int) ∈ row := by
    rw [List.mem_append, List.mem_singleton]
    refine ⟨fun h => ?_, .inl⟩
    rcases h with h | h
    · exact h
    · omega
  simp only [this]
theorem free_other {ps : List α} {row : List Int} {k x : α} {i : Nat} (h : ps[i]? = some k) (n : x ≠ k) : free ps (row ++ [(i : Int)]) x = free ps row x := by
  unfold free
  apply List.filter_congr
  intro j hj
  have hj' := mem_spots.mp hj
  have : ((j : Int) ∈ row ++ [(i : Int)]) ↔ (j : Int) ∈ row := by
    rw [List.mem_append, List.mem_singleton]
    refine ⟨fun h2 => ?_, .inl⟩
    rcases h2 with h2 | h2
    · exact h2
    · have e : j = i := by omega
      subst e
      rw [h] at hj'
      exact absurd (Option.some.inj hj').symm n
  simp only [this]
theorem filter_ne_length {i : Nat} : ∀ {l : List Nat}, l.Nodup → i ∈ l → (l.filter fun j => decide (j ≠ i)).length = l.length - 1
  | [], _, h => by cases h
  | x :: l, nd, h => by
    have nd' := List.nodup_cons.mp nd
    rw [List.filter_cons]
    by_cases hx : x = i
    · subst hx
      rw [if_neg (by simp)]
      rw [List.filter_eq_self.mpr fun a ha => by
        simp only [decide_eq_true_eq]
        intro z; exact nd'.1 (z ▸ ha)]
      simp
    · rw [if_pos (by simp [hx])]
      have hm : i ∈ l := by
        rcases List.mem_cons.mp h with z | z
        · exact absurd z.symm hx
        · exact z
      rw [List.length_cons, filter_ne_length nd'.2 hm, List.length_cons]
      have : 0 < l.length := List.length_pos_of_mem hm
      omega
theorem free_same {ps : List α} {row : List Int} {k : α} {i : Nat} (h : i ∈ free ps row k) : (free ps (row ++ [(i : Int)]) k).length = (free ps row k).length - 1 := by
  have nd : (free ps row k).Nodup := List.Nodup.sublist List.filter_sublist spots_nodup
  rw [← filter_ne_length nd h]
  unfold free
  rw [List.filter_filter]
  congr 1
  apply List.filter_congr
  intro j _
  have : ((j : Int) ∈ row ++ [(i : Int)]) ↔ ((j : Int) ∈ row ∨ j = i) := by
    rw [List.mem_append, List.mem_singleton]
    constructor
    · rintro (z | z)
      · exact .inl z
      · exact .inr (by omega)
    · rintro (z | z)
      · exact .inl z
      · exact .inr (by omega)
  rw [← Bool.decide_and]
  congr 1
  rw [this, not_or, and_comm]
theorem cnt_congr : ∀ {l : List α} {c d : α → Nat}, (∀ x, c x = d x) → cnt c l = cnt d l := by
  intro l c d h
  have : c = d := funext h
  rw [this]
theorem sum_const {β : Type} (f : β → Nat) (m : Nat) : ∀ {l : List β}, (∀ x ∈ l, f x = m) → (l.map f).sum = l.length * m
  | [], _ => by simp
  | x :: l, h => by
    rw [List.map_cons, List.sum_cons, h x (.head _), sum_const f m fun y hy => h y (.tail _ hy), List.length_cons, Nat.succ_mul, Nat.add_comm]
def cn (ps : List α) (row : List Int) (x : α) : Nat := (free ps row x).length
theorem ext_sum (ps : List α) (k : α) (row : List Int) (ks : List α) : ((ext ps k row).map fun r => cnt (cn ps r) ks).sum = cnt (cn ps row) (k :: ks) := by
  unfold ext
  rw [List.map_cons, List.sum_cons, List.map_map]
  show _ = cnt (cn ps row) ks + cn ps row k * cnt (less (cn ps row) k) ks
  congr 1
  · exact cnt_congr fun x => by unfold cn; rw [free_m1]
  · rw [sum_const _ (cnt (less (cn ps row) k) ks) (l := free ps row k)]
    · rfl
    · intro i hi
      refine cnt_congr fun x => ?_
      unfold cn less
      by_cases hx : x = k
      · subst hx; rw [if_pos rfl, free_same hi]
      · rw [if_neg hx, free_other (mem_free.mp hi).1 hx]
theorem flat_sum {β γ : Type} (f : γ → Nat) (g : β → List γ) : ∀ l : List β, ((l.flatMap g).map f).sum = (l.map fun x => ((g x).map f).sum).sum
  | [] => rfl
  | x :: l => by rw [List.flatMap_cons, List.map_append, List.sum_append, List.map_cons, List.sum_cons, flat_sum f g l]
theorem fold_count (ps : List α) : ∀ (os : List α) (L : List (List Int)), (os.foldl (stepR ps) L).length = (L.map fun r => cnt (cn ps r) os).sum
  | [], L => by
    rw [List.foldl_nil, sum_const (fun r => cnt (cn ps r) []) 1 (l := L) fun _ _ => rfl, Nat.mul_one]
  | k :: ks, L => by
    rw [List.foldl_cons, fold_count ps ks (stepR ps L k)]
    unfold stepR
    rw [flat_sum]
    congr 1
    apply List.map_congr_left
    intro r _
    exact ext_sum ps k r ks
theorem spots_length (ps : List α) (k : α) : (spots ps k).length = ps.count k := by
  unfold spots
  rw [← List.countP_eq_length_filter, List.count]
  induction ps with
  | nil => rfl
  | cons x ps ih =>
    rw [List.length_cons, List.range_succ_eq_map, List.countP_cons, List.countP_map, List.countP_cons, ← ih]
    simp only [List.getElem?_cons_zero, Option.some.injEq, Function.comp_def, List.getElem?_cons_succ]
    simp
theorem rows_count (ps os S : List α) (nd : S.Nodup) (h : ∀ x ∈ os, x ∈ S) : (rowsOf ps os).length = prodL (fun k => hw (ps.count k) (os.count k)) S := by
  unfold rowsOf
  rw [fold_count]
  simp only [List.map_cons, List.map_nil, List.sum_cons, List.sum_nil, Nat.add_zero]
  rw [← cnt_prod os (fun k => ps.count k) S nd h]
  refine cnt_congr fun x => ?_
  unfold cn
  rw [← spots_length]
  congr 1
  unfold free
  exact List.filter_eq_self.mpr fun a _ => by simp
end

/-! ### what the rows are -/
section
variable {α : Type} [DecidableEq α]
def okRow (ps os : List α) (row : List Int) : Prop := row.length = os.length ∧ (row.filter fun n => decide (n ≠ -1)).Nodup ∧ ∀ p ∈ row.zip os, p.1 = -1 ∨ (0 ≤ p.1 ∧ ps[p.1.toNat]? = some p.2)
theorem rows_snoc (ps os : List α) (k : α) : rowsOf ps (os ++ [k]) = stepR ps (rowsOf ps os) k := by unfold rowsOf; rw [List.foldl_append]; rfl
theorem mem_ext {ps : List α} {k : α} {row r : List Int} : r ∈ ext ps k row ↔ ∃ n : Int, r = row ++ [n] ∧ (n = -1 ∨ (0 ≤ n ∧ ps[n.toNat]? = some k ∧ n ∉ row)) := by
  unfold ext
  rw [List.mem_cons, List.mem_map]
  constructor
  · rintro (h | ⟨i, hi, h⟩)
    · exact ⟨-1, h, .inl rfl⟩
    · have := mem_free.mp hi
      exact ⟨i, h.symm, .inr ⟨by omega, by simpa using this.1, this.2⟩⟩
  · rintro ⟨n, h, (hn | ⟨h1, h2, h3⟩)⟩
    · subst hn; exact .inl h
    · refine .inr ⟨n.toNat, mem_free.mpr ⟨h2, ?_⟩, ?_⟩
      · rw [Int.toNat_of_nonneg h1]; exact h3
      · rw [Int.toNat_of_nonneg h1]; exact h.symm
theorem mem_rows : ∀ (m : Nat) {ps os : List α} {row : List Int}, os.length = m → (row ∈ rowsOf ps os ↔ okRow ps os row)
  | 0, ps, os, row, h => by
    have e := List.length_eq_zero_iff.mp h
    subst e
    unfold rowsOf okRow
    simp only [List.foldl_nil, List.mem_singleton, List.length_nil, List.zip_nil_right, List.not_mem_nil, false_implies, implies_true, and_true]
    constructor
    · intro e; subst e; simp
    · intro e; exact List.length_eq_zero_iff.mp e.1
  | m + 1, ps, os, row, h => by
    rcases List.eq_nil_or_concat os with e | ⟨os', k, e⟩
    · subst e; simp at h
    · rw [List.concat_eq_append] at e
      subst e
      have h' : os'.length = m := by simpa using h
      rw [rows_snoc]
      unfold stepR
      rw [List.mem_flatMap]
      constructor
      · rintro ⟨r0, hr0, hr⟩
        obtain ⟨n, en, hn⟩ := mem_ext.mp hr
        obtain ⟨l0, nd0, z0⟩ := (mem_rows m h').mp hr0
        subst en
        refine ⟨by simp [l0], ?_, ?_⟩
        · rw [List.filter_append, List.nodup_append]
          refine ⟨nd0, ?_, ?_⟩
          · by_cases q : n = -1 <;> simp [q]
          · intro a ha b hb
            rw [List.mem_filter] at ha hb
            have hb1 := List.mem_singleton.mp hb.1
            subst hb1
            rcases hn with q | ⟨_, _, q⟩
            · subst q; simp at hb
            · intro z; subst z; exact q ha.1
        · intro p hp
          rw [List.zip_append l0, List.mem_append] at hp
          rcases hp with hp | hp
          · exact z0 p hp
          · simp only [List.zip_cons_cons, List.zip_nil_right, List.mem_singleton] at hp
            subst hp
            rcases hn with q | ⟨q1, q2, _⟩
            · exact .inl q
            · exact .inr ⟨q1, q2⟩
      · rintro ⟨l0, nd0, z0⟩
        rcases List.eq_nil_or_concat row with e | ⟨r0, n, e⟩
        · subst e; simp at l0
        · rw [List.concat_eq_append] at e
          subst e
          have l1 : r0.length = os'.length := by simpa using l0
          rw [List.filter_append, List.nodup_append] at nd0
          refine ⟨r0, (mem_rows m h').mpr ⟨l1, nd0.1, fun p hp => z0 p (by rw [List.zip_append l1]; exact List.mem_append_left _ hp)⟩, mem_ext.mpr ⟨n, rfl, ?_⟩⟩
          rcases z0 (n, k) (by rw [List.zip_append l1]; simp) with q | ⟨q1, q2⟩
          · exact .inl q
          · refine .inr ⟨q1, q2, fun q => ?_⟩
            have q3 : n ≠ -1 := by simp only at q1; omega
            exact nd0.2.2 n (List.mem_filter.mpr ⟨q, by simp [q3]⟩) n (by simp [q3]) rfl

/-! ### their order -/
def llt : List Int → List Int → Bool
  | [], [] => false
  | [], _ :: _ => true
  | _ :: _, [] => false
  | x :: xs, y :: ys => decide (x < y) || (decide (x = y) && llt xs ys)
theorem llt_snoc : ∀ {a b : List Int} {x y : Int}, a.length = b.length → llt a b = true → llt (a ++ [x]) (b ++ [y]) = true
  | [], [], _, _, _, h => by simp [llt] at h
  | [], _ :: _, _, _, h, _ => by simp at h
  | _ :: _, [], _, _, h, _ => by simp at h
  | x :: xs, y :: ys, u, v, hl, h => by
    simp only [List.cons_append, llt, Bool.or_eq_true, decide_eq_true_eq, Bool.and_eq_true] at h ⊢
    rcases h with h | ⟨h1, h2⟩
    · exact .inl h
    · exact .inr ⟨h1, llt_snoc (by simpa using hl) h2⟩
theorem llt_last : ∀ {a : List Int} {x y : Int}, x < y → llt (a ++ [x]) (a ++ [y]) = true
  | [], x, y, h => by simp [llt, h]
  | z :: a, x, y, h => by
    simp only [List.cons_append, llt, Bool.or_eq_true, decide_eq_true_eq, Bool.and_eq_true]
    exact .inr ⟨trivial, llt_last h⟩
theorem rows_len (ps : List α) : ∀ (os : List α) (L : List (List Int)) (m : Nat), (∀ r ∈ L, r.length = m) → ∀ r ∈ os.foldl (stepR ps) L, r.length = m + os.length
  | [], L, m, h, r, hr => h r hr
  | k :: ks, L, m, h, r, hr => by
    rw [List.foldl_cons] at hr
    have := rows_len ps ks (stepR ps L k) (m + 1) (fun r hr => by
      unfold stepR at hr
      rw [List.mem_flatMap] at hr
      obtain ⟨r0, h0, h1⟩ := hr
      obtain ⟨n, e, _⟩ := mem_ext.mp h1
      rw [e, List.length_append, h r0 h0]; rfl) r hr
    rw [this, List.length_cons]; omega
theorem ext_asc (ps : List α) (k : α) (row : List Int) : (ext ps k row).Pairwise fun a b => llt a b = true := by
  unfold ext
  rw [List.pairwise_cons]
  refine ⟨fun r hr => ?_, ?_⟩
  · rw [List.mem_map] at hr
    obtain ⟨i, _, e⟩ := hr
    subst e
    exact llt_last (by omega)
  · rw [List.pairwise_map]
    have h0 : (free ps row k).Pairwise (· < ·) := by
      unfold free spots
      exact (List.pairwise_lt_range.filter _).filter _
    exact h0.imp fun h => llt_last (by omega)
theorem rows_asc (ps : List α) : ∀ (os : List α) (L : List (List Int)) (m : Nat), (∀ r ∈ L, r.length = m) → L.Pairwise (fun a b => llt a b = true) → (os.foldl (stepR ps) L).Pairwise fun a b => llt a b = true
  | [], L, _, _, h => h
  | k :: ks, L, m, hl, h => by
    rw [List.foldl_cons]
    refine rows_asc ps ks (stepR ps L k) (m + 1) (fun r hr => ?_) ?_
    · have := rows_len ps [k] L m hl r (by simpa using hr)
      simpa using this
    · unfold stepR
      rw [List.pairwise_flatMap]
      refine ⟨fun r _ => ext_asc ps k r, ?_⟩
      refine List.Pairwise.imp_of_mem (R := fun a b => llt a b = true) (fun {a b} ha hb q => ?_) h
      intro x hx y hy
      obtain ⟨n, e, _⟩ := mem_ext.mp hx
      obtain ⟨n', e', _⟩ := mem_ext.mp hy
      subst e e'
      exact llt_snoc (by rw [hl a ha, hl b hb]) q
theorem rowsOf_asc (ps os : List α) : (rowsOf ps os).Pairwise fun a b => llt a b = true := rows_asc ps os [[]] 0 (by simp) (by simp)
theorem rowsOf_len (ps os : List α) {r : List Int} (h : r ∈ rowsOf ps os) : r.length = os.length := by
  have := rows_len ps os [[]] 0 (by simp) r h
  simpa using this
end
theorem step_len {α : Type} [DecidableEq α] (ps : List α) (k : α) (L : List (List Int)) : (stepR ps L k).length ≤ L.length * (ps.length + 1) := by
  unfold stepR
  induction L with
  | nil => simp
  | cons r L ih =>
    rw [List.flatMap_cons, List.length_append, List.length_cons, Nat.succ_mul]
    have h1 : (ext ps k r).length ≤ ps.length + 1 := by
      unfold ext free
      rw [List.length_cons, List.length_map]
      have := List.length_filter_le (fun i : Nat => decide ((i : Int) ∉ r)) (spots ps k)
      have h2 : (spots ps k).length ≤ ps.length := by rw [spots_length]; exact List.count_le_length
      omega
    omega
theorem fold_len {α : Type} [DecidableEq α] (ps : List α) : ∀ (os : List α) (L : List (List Int)), (os.foldl (stepR ps) L).length ≤ L.length * (ps.length + 1) ^ os.length
  | [], L => by simp
  | k :: ks, L => by
    rw [List.foldl_cons, List.length_cons, Nat.pow_succ]
    have h1 := fold_len ps ks (stepR ps L k)
    have h2 := step_len ps k L
    have h3 := Nat.mul_le_mul_right ((ps.length + 1) ^ ks.length) h2
    rw [Nat.mul_assoc, Nat.mul_comm (ps.length + 1)] at h3
    exact Nat.le_trans h1 h3
theorem few_rows {α : Type} [DecidableEq α] {ps os : List α} (h1 : ps.length ≤ 4) (h2 : os.length ≤ 4) : (rowsOf ps os).length ≤ 625 := by
  have h := fold_len ps os [[]]
  rw [List.length_singleton, Nat.one_mul] at h
  have h3 : (ps.length + 1) ^ os.length ≤ 5 ^ 4 := Nat.le_trans (Nat.pow_le_pow_left (by omega) _) (Nat.pow_le_pow_right (by decide) h2)
  exact Nat.le_trans h (by simpa using h3)
theorem llt_asymm : ∀ {a b : List Int}, llt a b = true → llt b a = false
  | [], [], h => by simp [llt] at h
  | [], _ :: _, _ => rfl
  | _ :: _, [], h => by simp [llt] at h
  | x :: xs, y :: ys, h => by
    simp only [llt, Bool.or_eq_true, decide_eq_true_eq, Bool.and_eq_true] at h
    simp only [llt, Bool.or_eq_false_iff, decide_eq_false_iff_not, Bool.and_eq_false_iff]
    rcases h with h | ⟨h1, h2⟩
    · exact ⟨by omega, .inl (by omega)⟩
    · exact ⟨by omega, .inr (llt_asymm h2)⟩
/-! ### the formula -/
def tot (a b : Nat) : Nat → Nat × Nat
  | 0 => (1, 1)
  | k + 1 => let p := tot a b k
    let w := p.1 * (a - k) * (b - k) / (k + 1)
    (w, p.2 + w)
theorem tot_hw : ∀ a, a ≤ 5 → ∀ b, b ≤ 5 → (tot a b (min a b)).2 = hw a b := by decide
end M7
-- G07
namespace Dn
open PySem PySem.Spec PyProof.Rows L2
open LamX (TabB Tabs LamS lamS_by lamEnv lamCx ExtN)
def top (i : Nat) : Stmt := PySem.Challenge.pw_rulesonwebs_k07_whole_maps_each_once_by.main.body.getD i (.Pass ⟨0, 0, 0, 0⟩)
structure Pg (P : Program) (K : PySem.W.Frag) (mg : Str → Option Value) where
  d_is_whole : DefAt K mg "is_whole" (top 10) ["thing", "low", "high"]
  d_is_name : DefAt K mg "is_name" (top 11) ["thing"]
  d_is_short : DefAt K mg "is_short" (top 12) ["thing"]
  d_is_tuple_of : DefAt K mg "is_tuple_of" (top 13) ["thing", "look"]
  d_are_in_order : DefAt K mg "are_in_order" (top 14) ["row"]
  d_are_unlike : DefAt K mg "are_unlike" (top 15) ["row"]
  d_is_tie_kind : DefAt K mg "is_tie_kind" (top 21) ["places", "thing"]
  d_is_kinds_value : DefAt K mg "is_kinds_value" (top 22) ["thing"]
  d_need_kinds : DefAt K mg "need_kinds" (top 23) ["kinds"]
  d_ends_of : DefAt K mg "ends_of" (top 24) ["kinds", "kind"]
  d_size_of : DefAt K mg "size_of" (top 25) ["kinds", "kind"]
  d_is_tie_over : DefAt K mg "is_tie_over" (top 29) ["kinds", "places", "thing"]
  d_are_ties_over : DefAt K mg "are_ties_over" (top 30) ["kinds", "places", "thing"]
  d_is_pattern_value : DefAt K mg "is_pattern_value" (top 31) ["kinds", "thing"]
  d_need_pattern : DefAt K mg "need_pattern" (top 32) ["kinds", "pattern"]
  d_maps_of : DefAt K mg "maps_of" (top 35) ["places", "others"]
  d_images_of : DefAt K mg "images_of" (top 36) ["one", "other", "onto"]
  d_is_map : DefAt K mg "is_map" (top 37) ["one", "other", "thing"]
  d_need_patterns : DefAt K mg "need_patterns" (top 38) ["kinds", "one", "other"]
  d_need_map : DefAt K mg "need_map" (top 39) ["kinds", "one", "other", "onto"]
  d_maps : DefAt K mg "maps" (top 40) ["kinds", "one", "other"]
  d_images : DefAt K mg "images" (top 41) ["kinds", "one", "other", "onto"]
  d__law_deck : DefAt K mg "_law_deck" (top 43) ["script"]
  d__law_draw : DefAt K mg "_law_draw" (top 44) ["deck", "many"]
  d__law_pick : DefAt K mg "_law_pick" (top 45) ["deck", "some"]
  d__law_mixed : DefAt K mg "_law_mixed" (top 46) ["deck", "some"]
  d__law_same : DefAt K mg "_law_same" (top 47) ["told", "due"]
  d__law_is_whole : DefAt K mg "_law_is_whole" (top 48) ["thing"]
  d__law_kinds : DefAt K mg "_law_kinds" (top 49) ["deck"]
  d__law_pattern : DefAt K mg "_law_pattern" (top 50) ["deck", "kinds", "many", "most"]
  d__law_maps : DefAt K mg "_law_maps" (top 51) ["one", "other"]
  d__law_image : DefAt K mg "_law_image" (top 52) ["one", "other", "onto"]
  d__law_heard : DefAt K mg "_law_heard" (top 53) ["call"]
  d__law_many : DefAt K mg "_law_many" (top 54) ["one", "other"]
  d__law_no_map : DefAt K mg "_law_no_map" (top 55) ["deck", "one", "other"]
  d__law_is_map : DefAt K mg "_law_is_map" (top 56) ["due", "thing"]
  d_law : DefAt K mg "law" (top 57) ["script"]
  c_LETTERS : ∃ t, mg "LETTERS" = some (.str "abcdefghijklmnopqrstuvwxyz" t)
  c_FIGURES : ∃ t, mg "FIGURES" = some (.str "0123456789" t)
  c_LONGEST : ∃ t, mg "LONGEST" = some (.int (12) t)
  c_MOST_PARTS : ∃ t, mg "MOST_PARTS" = some (.int (20000) t)
  c_PAIR_kinds : ∃ t, mg "PAIR_kinds" = some (.int (2) t)
  c_TRIPLE : ∃ t, mg "TRIPLE" = some (.int (3) t)
  c_MOST_ENDS : ∃ t, mg "MOST_ENDS" = some (.int (3) t)
  c_MOST_SIZE : ∃ t, mg "MOST_SIZE" = some (.int (8) t)
  c_TIE_PARTS : ∃ t, mg "TIE_PARTS" = some (.int (3) t)
  c_PAIR_patterns : ∃ t, mg "PAIR_patterns" = some (.int (2) t)
  c_OUTSIDE : ∃ t, mg "OUTSIDE" = some (.int (-1) t)
  z_abs : mg "abs" = none
  z_all : mg "all" = none
  z_any : mg "any" = none
  z_bool : mg "bool" = none
  z_dict : mg "dict" = none
  z_enumerate : mg "enumerate" = none
  z_int : mg "int" = none
  z_isinstance : mg "isinstance" = none
  z_len : mg "len" = none
  z_list : mg "list" = none
  z_max : mg "max" = none
  z_min : mg "min" = none
  z_range : mg "range" = none
  z_repr : mg "repr" = none
  z_set : mg "set" = none
  z_sorted : mg "sorted" = none
  z_str : mg "str" = none
  z_sum : mg "sum" = none
  z_super : mg "super" = none
  z_tuple : mg "tuple" = none
  z_zip : mg "zip" = none
  k_images_3_2_1_0 : KwB K d_images.fd ["kinds", "one", "other", "onto"] ["onto", "other", "one", "kinds"] [3, 2, 1, 0]
  k_maps_2_1_0 : KwB K d_maps.fd ["kinds", "one", "other"] ["other", "one", "kinds"] [2, 1, 0]
  rt : Addr
  fI : Addr
  xf : XcF P K rt fI
  x_WebError : ClsAt K mg "WebError" rt fI
  x_BadKinds : ClsAt K mg "BadKinds" rt fI
  x_BadPattern : ClsAt K mg "BadPattern" rt fI
  x_BadFit : ClsAt K mg "BadFit" rt fI
  xs_BadKinds : XcS K x_BadKinds.C
  em_BadKinds_BadFit : PySem.W.exmOne K (.ref x_BadKinds.C) (.ref x_BadFit.C) = some false
  em_BadKinds_BadKinds : PySem.W.exmOne K (.ref x_BadKinds.C) (.ref x_BadKinds.C) = some true
  em_BadKinds_BadPattern : PySem.W.exmOne K (.ref x_BadKinds.C) (.ref x_BadPattern.C) = some false
  ki_BadKinds_WebError : PySem.W.kitOne K (.ref x_BadKinds.C) (.ref x_WebError.C) = some true
  xs_BadPattern : XcS K x_BadPattern.C
  em_BadPattern_BadFit : PySem.W.exmOne K (.ref x_BadPattern.C) (.ref x_BadFit.C) = some false
  em_BadPattern_BadKinds : PySem.W.exmOne K (.ref x_BadPattern.C) (.ref x_BadKinds.C) = some false
  em_BadPattern_BadPattern : PySem.W.exmOne K (.ref x_BadPattern.C) (.ref x_BadPattern.C) = some true
  ki_BadPattern_WebError : PySem.W.kitOne K (.ref x_BadPattern.C) (.ref x_WebError.C) = some true
  xs_BadFit : XcS K x_BadFit.C
  em_BadFit_BadFit : PySem.W.exmOne K (.ref x_BadFit.C) (.ref x_BadFit.C) = some true
  em_BadFit_BadKinds : PySem.W.exmOne K (.ref x_BadFit.C) (.ref x_BadKinds.C) = some false
  em_BadFit_BadPattern : PySem.W.exmOne K (.ref x_BadFit.C) (.ref x_BadPattern.C) = some false
  ki_BadFit_WebError : PySem.W.kitOne K (.ref x_BadFit.C) (.ref x_WebError.C) = some true
  l_law_c : Addr
  l_law_P : Addr
  l_law_code : d_law.fd.code = .ref l_law_c
section
variable {P : Program} {w : World} {K : PySem.W.Frag} {mg : Str → Option Value} {base : Heap} {J : Hp → Prop} {stab : ∀ H p o, H p = none ∨ Soft (H p) → J H → J (upd H p o)}
def kn0 : Str → Bool := fun n => n == "BadKinds" || n == "BadPattern" || n == "BadFit"
theorem xs_all (T : Pg P K mg) : ∀ n C, kn0 n = true → mg n = some (.ref C) → XcS K C := by
  intro n C hk hm
  unfold kn0 at hk
  simp only [Bool.or_eq_true, beq_iff_eq] at hk
  rcases hk with (hk | hk) | hk
  · subst hk; rw [T.x_BadKinds.hm] at hm; cases hm; exact T.xs_BadKinds
  · subst hk; rw [T.x_BadPattern.hm] at hm; cases hm; exact T.xs_BadPattern
  · subst hk; rw [T.x_BadFit.hm] at hm; cases hm; exact T.xs_BadFit
def m_BadFit : Str → Bool := fun n => n == "BadFit"
theorem hm_BadFit (T : Pg P K mg) : ∀ n C, kn0 n = true → mg n = some (.ref C) → PySem.W.exmOne K (.ref C) (.ref T.x_BadFit.C) = some (m_BadFit n) := by
  intro n C hk hm
  unfold kn0 at hk
  simp only [Bool.or_eq_true, beq_iff_eq] at hk
  rcases hk with (hk | hk) | hk
  · subst hk; rw [T.x_BadKinds.hm] at hm; cases hm; exact T.em_BadKinds_BadFit
  · subst hk; rw [T.x_BadPattern.hm] at hm; cases hm; exact T.em_BadPattern_BadFit
  · subst hk; rw [T.x_BadFit.hm] at hm; cases hm; exact T.em_BadFit_BadFit
def m_BadKinds : Str → Bool := fun n => n == "BadKinds"
theorem hm_BadKinds (T : Pg P K mg) : ∀ n C, kn0 n = true → mg n = some (.ref C) → PySem.W.exmOne K (.ref C) (.ref T.x_BadKinds.C) = some (m_BadKinds n) := by
  intro n C hk hm
  unfold kn0 at hk
  simp only [Bool.or_eq_true, beq_iff_eq] at hk
  rcases hk with (hk | hk) | hk
  · subst hk; rw [T.x_BadKinds.hm] at hm; cases hm; exact T.em_BadKinds_BadKinds
  · subst hk; rw [T.x_BadPattern.hm] at hm; cases hm; exact T.em_BadPattern_BadKinds
  · subst hk; rw [T.x_BadFit.hm] at hm; cases hm; exact T.em_BadFit_BadKinds
def m_BadPattern : Str → Bool := fun n => n == "BadPattern"
theorem hm_BadPattern (T : Pg P K mg) : ∀ n C, kn0 n = true → mg n = some (.ref C) → PySem.W.exmOne K (.ref C) (.ref T.x_BadPattern.C) = some (m_BadPattern n) := by
  intro n C hk hm
  unfold kn0 at hk
  simp only [Bool.or_eq_true, beq_iff_eq] at hk
  rcases hk with (hk | hk) | hk
  · subst hk; rw [T.x_BadKinds.hm] at hm; cases hm; exact T.em_BadKinds_BadPattern
  · subst hk; rw [T.x_BadPattern.hm] at hm; cases hm; exact T.em_BadPattern_BadPattern
  · subst hk; rw [T.x_BadFit.hm] at hm; cases hm; exact T.em_BadFit_BadPattern
def k_WebError : Str → Bool := fun n => n == "BadKinds" || n == "BadPattern" || n == "BadFit"
theorem hk_WebError (T : Pg P K mg) : ∀ n C, kn0 n = true → mg n = some (.ref C) → PySem.W.kitOne K (.ref C) (.ref T.x_WebError.C) = some (k_WebError n) := by
  intro n C hk hm
  unfold kn0 at hk
  simp only [Bool.or_eq_true, beq_iff_eq] at hk
  rcases hk with (hk | hk) | hk
  · subst hk; rw [T.x_BadKinds.hm] at hm; cases hm; exact T.ki_BadKinds_WebError
  · subst hk; rw [T.x_BadPattern.hm] at hm; cases hm; exact T.ki_BadPattern_WebError
  · subst hk; rw [T.x_BadFit.hm] at hm; cases hm; exact T.ki_BadFit_WebError
theorem sc_is_whole : FnScope ["thing", "low", "high"] ["thing", "low", "high"] (defScope (top 10)) := ⟨rfl, rfl, rfl, by decide +kernel, rfl, by decide +kernel, by decide +kernel⟩
def F_is_whole : FS := sRet (eAndV (eIsi "int" (eVar 0)) (eAndV (eNotV (eIsi "bool" (eVar 0))) (eChain gLe gLe (eVar 1) (eVar 0) (eVar 2))))
def G_is_whole : Fn := bodyG 3 F_is_whole
theorem ok_is_whole (T : Pg P K mg) : FnG P w K mg base 1 T.d_is_whole.f T.d_is_whole.fd ["thing", "low", "high"] (spG ⟨K, mg, J, stab⟩ 3 G_is_whole) :=
  fnClr T.d_is_whole.fn sc_is_whole fun cdv A outer s H E gd hr tk hp =>
    have hu : (A.deeper (envOfC "is_whole" (defScope (top 10)) s.heap.objs.size T.d_is_whole.f cdv)).units + 65 < cLine := by have := hr.un; omega
    have hu1 := Nat.lt_of_le_of_lt (Nat.add_le_add_left (show 1 ≤ 65 by decide) _) hu
    (s_one (s_ret (e_and (e_isi rfl T.z_isinstance (e_var 0 (pv 0)) rfl T.z_int (by decide +kernel)) (e_and (e_not (e_isi rfl T.z_isinstance (e_var 0 (pv 0)) rfl T.z_bool (by decide +kernel))) (e_one (e_chain op_le od_le op_le od_le (e_var 1 (pv 1)) (e_var 0 (pv 0)) (e_var 2 (pv 2))))))))
theorem sc_is_name : FnScope ["thing", "sign"] ["thing"] (defScope (top 11)) := ⟨rfl, rfl, rfl, by decide +kernel, rfl, by decide +kernel, by decide +kernel⟩
def F_is_name : FS := sSeq (sIf (bOr (bNot (eT (eIsi "str" (eVar 0)))) (bOr (bNot (eB (eChain gLe gLe (eOk (.int 1)) (eBind (eCons (eVar 0) (eNil)) fun ds => optE (fLenV ds)) (eOk (.int (12)))))) (eB (eOp gNin (eOp gIx (eVar 0) (eOk (.int 0))) (eOk (.str "abcdefghijklmnopqrstuvwxyz")))))) (sRet (eOk (.bl false))) (sNx))
    (sRet (eBind (eComp [1] (eIter (eVar 0)) (.nm 1) (eOk true) (eOrV (eOp gIn (eVar 1) (eOk (.str "abcdefghijklmnopqrstuvwxyz"))) (eOp gIn (eVar 1) (eOk (.str "0123456789"))))) fun ds => optE (fAll ds)))
def G_is_name : Fn := bodyG 2 F_is_name
theorem ok_is_name (T : Pg P K mg) : FnG P w K mg base 1 T.d_is_name.f T.d_is_name.fd ["thing"] (spG ⟨K, mg, J, stab⟩ 1 G_is_name) :=
  fnClr T.d_is_name.fn sc_is_name fun cdv A outer s H E gd hr tk hp =>
    have hu : (A.deeper (envOfC "is_name" (defScope (top 11)) s.heap.objs.size T.d_is_name.f cdv)).units + 65 < cLine := by have := hr.un; omega
    have hu1 := Nat.lt_of_le_of_lt (Nat.add_le_add_left (show 1 ≤ 65 by decide) _) hu
    (s_cons (s_if (b_w (w_or (b_not (b_val (e_isi rfl T.z_isinstance (e_var 0 (pv 0)) rfl T.z_str (by decide +kernel)))) (w_or (b_not (b_chain op_le od_le op_le od_le e_int (e_len rfl T.z_len (a_cons (e_var 0 (pv 0)) a_nil)) (e_gI rfl T.c_LONGEST))) (w_or1 (b_nin hu (e_ix (e_var 0 (pv 0)) e_int) (e_gS rfl T.c_LETTERS) (by rfl)))))) (s_one (s_ret e_bl)) s_nil)
    (s_one (s_ret (e_all rfl rfl T.z_all (f_comp (own := [("sign", 1)]) rfl sc_is_name.nd (i_e (e_var 0 (pv 0))) (blkOk_by (N := ["thing", "sign"]) (sc := defScope (top 11)) (by decide +kernel)) (fun _ _ _ _ _ => (g_name (pg_name (i := 1) sc_is_name.nd rfl (by first | exact .inl rfl | exact .inr rfl)))) (fun _ _ _ _ _ => c_yes) (fun _ _ _ _ _ => (e_or (e_in hu (e_var 1 (pv 1)) (e_gS rfl T.c_LETTERS) (by rfl)) (e_one (e_in hu (e_var 1 (pv 1)) (e_gS rfl T.c_FIGURES) (by rfl))))) (by decide))))))
theorem sc_is_short : FnScope ["thing"] ["thing"] (defScope (top 12)) := ⟨rfl, rfl, rfl, by decide +kernel, rfl, by decide +kernel, by decide +kernel⟩
def F_is_short : FS := sRet (eAndV (eIsi "tuple" (eVar 0)) (eOp gLe (eBind (eCons (eVar 0) (eNil)) fun ds => optE (fLenV ds)) (eOk (.int (20000)))))
def G_is_short : Fn := bodyG 1 F_is_short
theorem ok_is_short (T : Pg P K mg) : FnG P w K mg base 1 T.d_is_short.f T.d_is_short.fd ["thing"] (spG ⟨K, mg, J, stab⟩ 1 G_is_short) :=
  fnClr T.d_is_short.fn sc_is_short fun cdv A outer s H E gd hr tk hp =>
    have hu : (A.deeper (envOfC "is_short" (defScope (top 12)) s.heap.objs.size T.d_is_short.f cdv)).units + 65 < cLine := by have := hr.un; omega
    have hu1 := Nat.lt_of_le_of_lt (Nat.add_le_add_left (show 1 ≤ 65 by decide) _) hu
    (s_one (s_ret (e_and (e_isi rfl T.z_isinstance (e_var 0 (pv 0)) rfl T.z_tuple (by decide +kernel)) (e_one (e_cmp op_le od_le (e_len rfl T.z_len (a_cons (e_var 0 (pv 0)) a_nil)) (e_gI rfl T.c_MOST_PARTS) (nomark _))))))
theorem sc_is_tuple_of : FnScope ["thing", "look", "part"] ["thing", "look"] (defScope (top 13)) := ⟨rfl, rfl, rfl, by decide +kernel, rfl, by decide +kernel, by decide +kernel⟩
def tb_is_tuple_of : Str → Option (Nat × Fn) := fun n => if n = "is_name" then some (1, G_is_name) else none
def F_is_tuple_of : FS := sRet (eAndV (eCall 1 G_is_short (eCons (eVar 0) (eNil))) (eBind (eComp [2] (eIter (eVar 0)) (.nm 2) (eOk true) (eCallL 1 tb_is_tuple_of (eCons (eVar 2) (eNil)))) fun ds => optE (fAll ds)))
def G_is_tuple_of : Fn := bodyG 3 F_is_tuple_of
theorem tab_is_tuple_of (T : Pg P K mg) {X : Cx} (eK : X.K = K) (eM : X.mg = mg) (eP : X.prog = P) (ew : X.w = w) (eb : X.base = base) : TabG X ⟨K, mg, J, stab⟩ 1 tb_is_tuple_of := by
  subst eK eM eP ew eb
  intro n m G h
  unfold tb_is_tuple_of at h
  by_cases h0 : n = "is_name"
  · rw [if_pos h0] at h; cases h; subst h0; exact ⟨_, _, _, T.d_is_name.hm, (ok_is_name T).up (by decide), T.d_is_name.fn.kp, T.d_is_name.bd⟩
  rw [if_neg h0] at h
  cases h
theorem ok_is_tuple_of (T : Pg P K mg) : FnG P w K mg base 2 T.d_is_tuple_of.f T.d_is_tuple_of.fd ["thing", "look"] (spG ⟨K, mg, J, stab⟩ 2 G_is_tuple_of) :=
  fnClr T.d_is_tuple_of.fn sc_is_tuple_of fun cdv A outer s H E gd hr tk hp =>
    have hu : (A.deeper (envOfC "is_tuple_of" (defScope (top 13)) s.heap.objs.size T.d_is_tuple_of.f cdv)).units + 65 < cLine := by have := hr.un; omega
    have hu1 := Nat.lt_of_le_of_lt (Nat.add_le_add_left (show 1 ≤ 65 by decide) _) hu
    (s_one (s_ret (e_and (e_do gd tk ((ok_is_short T).up (by decide)) hr rfl T.d_is_short.hm T.d_is_short.fn.kp T.d_is_short.bd (a_cons (e_var 0 (pv 0)) a_nil)) (e_one (e_all rfl rfl T.z_all (f_comp (own := [("part", 2)]) rfl sc_is_tuple_of.nd (i_e (e_var 0 (pv 0))) (blkOk_by (N := ["thing", "look", "part"]) (sc := defScope (top 13)) (by decide +kernel)) (fun _ _ _ _ _ => (g_name (pg_name (i := 2) sc_is_tuple_of.nd rfl (by first | exact .inl rfl | exact .inr rfl)))) (fun _ _ _ _ _ => c_yes) (fun _ _ _ _ _ => (e_doL gd L2.takes0 (tab_is_tuple_of T rfl rfl rfl rfl rfl) hr (pv 1) (a_cons (e_var 2 (pv 2)) a_nil))) (by decide)))))))
theorem sc_are_in_order : FnScope ["row", "one", "other"] ["row"] (defScope (top 14)) := ⟨rfl, rfl, rfl, by decide +kernel, rfl, by decide +kernel, by decide +kernel⟩
def F_are_in_order : FS := sRet (eBind (eComp [1, 2] (eBind (eCons (eVar 0) (eCons (eSlT (eVar 0) (oInt (eOk (.int 1))) (oNo)) (eNil))) zipOf) (.tp [.nm 1, .nm 2]) (eOk true) (eOp gLeA (eVar 1) (eVar 2))) fun ds => optE (fAll ds))
def G_are_in_order : Fn := bodyG 3 F_are_in_order
theorem ok_are_in_order (T : Pg P K mg) : FnG P w K mg base 1 T.d_are_in_order.f T.d_are_in_order.fd ["row"] (spG ⟨K, mg, J, stab⟩ 1 G_are_in_order) :=
  fnClr T.d_are_in_order.fn sc_are_in_order fun cdv A outer s H E gd hr tk hp =>
    have hu : (A.deeper (envOfC "are_in_order" (defScope (top 14)) s.heap.objs.size T.d_are_in_order.f cdv)).units + 65 < cLine := by have := hr.un; omega
    have hu1 := Nat.lt_of_le_of_lt (Nat.add_le_add_left (show 1 ≤ 65 by decide) _) hu
    (s_one (s_ret (e_all rfl rfl T.z_all (f_comp (own := [("one", 1), ("other", 2)]) rfl sc_are_in_order.nd (i_zip rfl T.z_zip (a_cons (e_var 0 (pv 0)) (a_cons (e_slice (e_var 0 (pv 0)) (o_int e_int) o_no) a_nil))) (blkOk_by (N := ["row", "one", "other"]) (sc := defScope (top 14)) (by decide +kernel)) (fun _ _ _ _ _ => (g_tup rfl (gs_cons (g_name (pg_name (i := 1) sc_are_in_order.nd rfl (by first | exact .inl rfl | exact .inr rfl))) (gs_cons (g_name (pg_name (i := 2) sc_are_in_order.nd rfl (by first | exact .inl rfl | exact .inr rfl))) gs_nil)))) (fun _ _ _ _ _ => c_yes) (fun _ _ _ _ _ => (e_leA hu (e_var 1 (pv 1)) (e_var 2 (pv 2)))) (by decide)))))
theorem sc_are_unlike : FnScope ["row", "one"] ["row"] (defScope (top 15)) := ⟨rfl, rfl, rfl, by decide +kernel, rfl, by decide +kernel, by decide +kernel⟩
def F_are_unlike : FS := sRet (eOp gEq (eBind (eDcomp [1] (eIter (eVar 0)) (.nm 1) (eOk true) (eVar 1) (eOk (.bl true))) fun kd => eOk (.int kd.1.length)) (eBind (eCons (eVar 0) (eNil)) fun ds => optE (fLenV ds)))
def G_are_unlike : Fn := bodyG 2 F_are_unlike
theorem ok_are_unlike (T : Pg P K mg) : FnG P w K mg base 1 T.d_are_unlike.f T.d_are_unlike.fd ["row"] (spG ⟨K, mg, J, stab⟩ 1 G_are_unlike) :=
  fnClr T.d_are_unlike.fn sc_are_unlike fun cdv A outer s H E gd hr tk hp =>
    have hu : (A.deeper (envOfC "are_unlike" (defScope (top 15)) s.heap.objs.size T.d_are_unlike.f cdv)).units + 65 < cLine := by have := hr.un; omega
    have hu1 := Nat.lt_of_le_of_lt (Nat.add_le_add_left (show 1 ≤ 65 by decide) _) hu
    (s_one (s_ret (e_eq hu (e_lenFd rfl T.z_len (f_dcomp (own := [("one", 1)]) rfl sc_are_unlike.nd (i_e (e_var 0 (pv 0))) (blkOk_by (N := ["row", "one"]) (sc := defScope (top 15)) (by decide +kernel)) (fun _ _ _ _ _ => (g_name (pg_name (i := 1) sc_are_unlike.nd rfl (by first | exact .inl rfl | exact .inr rfl)))) (fun _ _ _ _ _ => c_yes) (fun _ _ _ _ _ => (e_var 1 (pv 1))) (fun _ _ _ _ _ => e_bl) (by decide))) (e_len rfl T.z_len (a_cons (e_var 0 (pv 0)) a_nil)))))
theorem sc_is_tie_kind : FnScope ["places", "thing", "end"] ["places", "thing"] (defScope (top 21)) := ⟨rfl, rfl, rfl, by decide +kernel, rfl, by decide +kernel, by decide +kernel⟩
def F_is_tie_kind : FS := sSeq (sIf (bOr (bNot (eT (eIsi "tuple" (eVar 1)))) (bOr (eB (eOp gNe (eBind (eCons (eVar 1) (eNil)) fun ds => optE (fLenV ds)) (eOk (.int (3))))) (bNot (eT (eCall 1 G_is_name (eCons (eOp gIx (eVar 1) (eOk (.int 0))) (eNil))))))) (sRet (eOk (.bl false))) (sNx))
    (sSeq (sIf (bOr (bNot (eT (eCall 2 G_is_tuple_of (eCons (eOp gIx (eVar 1) (eOk (.int 1))) (eCons (eOk (.fn "is_name")) (eNil)))))) (bNot (eB (eChain gLe gLe (eOk (.int 1)) (eBind (eCons (eOp gIx (eVar 1) (eOk (.int 1))) (eNil)) fun ds => optE (fLenV ds)) (eOk (.int (3))))))) (sRet (eOk (.bl false))) (sNx))
    (sRet (eAndV (eBind (eComp [2] (eIter (eOp gIx (eVar 1) (eOk (.int 1)))) (.nm 2) (eOk true) (eOp gIn (eVar 2) (eVar 0))) fun ds => optE (fAll ds)) (eCall 3 G_is_whole (eCons (eOp gIx (eVar 1) (eOk (.int 2))) (eCons (eOk (.int 1)) (eCons (eOk (.int (8))) (eNil))))))))
def G_is_tie_kind : Fn := bodyG 3 F_is_tie_kind
theorem ok_is_tie_kind (T : Pg P K mg) : FnG P w K mg base 3 T.d_is_tie_kind.f T.d_is_tie_kind.fd ["places", "thing"] (spG ⟨K, mg, J, stab⟩ 2 G_is_tie_kind) :=
  fnClr T.d_is_tie_kind.fn sc_is_tie_kind fun cdv A outer s H E gd hr tk hp =>
    have hu : (A.deeper (envOfC "is_tie_kind" (defScope (top 21)) s.heap.objs.size T.d_is_tie_kind.f cdv)).units + 65 < cLine := by have := hr.un; omega
    have hu1 := Nat.lt_of_le_of_lt (Nat.add_le_add_left (show 1 ≤ 65 by decide) _) hu
    (s_cons (s_if (b_w (w_or (b_not (b_val (e_isi rfl T.z_isinstance (e_var 1 (pv 1)) rfl T.z_tuple (by decide +kernel)))) (w_or (b_ne hu (e_len rfl T.z_len (a_cons (e_var 1 (pv 1)) a_nil)) (e_gI rfl T.c_TRIPLE)) (w_or1 (b_not (b_val (e_do gd tk ((ok_is_name T).up (by decide)) hr rfl T.d_is_name.hm T.d_is_name.fn.kp T.d_is_name.bd (a_cons (e_ix (e_var 1 (pv 1)) e_int) a_nil)))))))) (s_one (s_ret e_bl)) s_nil)
    (s_cons (s_if (b_w (w_or (b_not (b_val (e_do gd tk ((ok_is_tuple_of T).up (by decide)) hr rfl T.d_is_tuple_of.hm T.d_is_tuple_of.fn.kp T.d_is_tuple_of.bd (a_cons (e_ix (e_var 1 (pv 1)) e_int) (a_cons (e_gF rfl T.d_is_name) a_nil))))) (w_or1 (b_not (b_chain op_le od_le op_le od_le e_int (e_len rfl T.z_len (a_cons (e_ix (e_var 1 (pv 1)) e_int) a_nil)) (e_gI rfl T.c_MOST_ENDS)))))) (s_one (s_ret e_bl)) s_nil)
    (s_one (s_ret (e_and (e_all rfl rfl T.z_all (f_comp (own := [("end", 2)]) rfl sc_is_tie_kind.nd (i_e (e_ix (e_var 1 (pv 1)) e_int)) (blkOk_by (N := ["places", "thing", "end"]) (sc := defScope (top 21)) (by decide +kernel)) (fun _ _ _ _ _ => (g_name (pg_name (i := 2) sc_is_tie_kind.nd rfl (by first | exact .inl rfl | exact .inr rfl)))) (fun _ _ _ _ _ => c_yes) (fun _ _ _ _ _ => (e_in hu (e_var 2 (pv 2)) (e_var 0 (pv 0)) (by rfl))) (by decide))) (e_one (e_do gd tk ((ok_is_whole T).up (by decide)) hr rfl T.d_is_whole.hm T.d_is_whole.fn.kp T.d_is_whole.bd (a_cons (e_ix (e_var 1 (pv 1)) e_int) (a_cons e_int (a_cons (e_gI rfl T.c_MOST_SIZE) a_nil))))))))))
theorem sc_is_kinds_value : FnScope ["thing", "places", "ties", "tie"] ["thing"] (defScope (top 22)) := ⟨rfl, rfl, rfl, by decide +kernel, rfl, by decide +kernel, by decide +kernel⟩
def F_is_kinds_value : FS := sSeq (sIf (bOr (bNot (eT (eIsi "tuple" (eVar 0)))) (bOr (eB (eOp gNe (eBind (eCons (eVar 0) (eNil)) fun ds => optE (fLenV ds)) (eOk (.int (2))))) (bNot (eT (eCall 2 G_is_tuple_of (eCons (eOp gIx (eVar 0) (eOk (.int 0))) (eCons (eOk (.fn "is_name")) (eNil)))))))) (sRet (eOk (.bl false))) (sNx))
    (sSeq (sSet (.tp [.nm 1, .nm 2]) (eVar 0))
    (sSeq (sIf (bOr (eB (eOp gEq (eVar 1) (eTup (eNil)))) (bOr (bNot (eT (eCall 1 G_are_unlike (eCons (eVar 1) (eNil))))) (bNot (eT (eIsi "tuple" (eVar 2)))))) (sRet (eOk (.bl false))) (sNx))
    (sSeq (sIf (bNot (eT (eBind (eComp [3] (eIter (eVar 2)) (.nm 3) (eOk true) (eCall 2 G_is_tie_kind (eCons (eVar 1) (eCons (eVar 3) (eNil))))) fun ds => optE (fAll ds)))) (sRet (eOk (.bl false))) (sNx))
    (sRet (eCall 1 G_are_unlike (eCons (eMap .lst (eComp [3] (eIter (eVar 2)) (.nm 3) (eOk true) (eOp gIx (eVar 3) (eOk (.int 0))))) (eNil)))))))
def G_is_kinds_value : Fn := bodyG 4 F_is_kinds_value
theorem ok_is_kinds_value (T : Pg P K mg) : FnG P w K mg base 4 T.d_is_kinds_value.f T.d_is_kinds_value.fd ["thing"] (spG ⟨K, mg, J, stab⟩ 1 G_is_kinds_value) :=
  fnClr T.d_is_kinds_value.fn sc_is_kinds_value fun cdv A outer s H E gd hr tk hp =>
    have hu : (A.deeper (envOfC "is_kinds_value" (defScope (top 22)) s.heap.objs.size T.d_is_kinds_value.f cdv)).units + 65 < cLine := by have := hr.un; omega
    have hu1 := Nat.lt_of_le_of_lt (Nat.add_le_add_left (show 1 ≤ 65 by decide) _) hu
    (s_cons (s_if (b_w (w_or (b_not (b_val (e_isi rfl T.z_isinstance (e_var 0 (pv 0)) rfl T.z_tuple (by decide +kernel)))) (w_or (b_ne hu (e_len rfl T.z_len (a_cons (e_var 0 (pv 0)) a_nil)) (e_gI rfl T.c_PAIR_kinds)) (w_or1 (b_not (b_val (e_do gd tk ((ok_is_tuple_of T).up (by decide)) hr rfl T.d_is_tuple_of.hm T.d_is_tuple_of.fn.kp T.d_is_tuple_of.bd (a_cons (e_ix (e_var 0 (pv 0)) e_int) (a_cons (e_gF rfl T.d_is_name) a_nil))))))))) (s_one (s_ret e_bl)) s_nil)
    (s_cons (s_asg (e_var 0 (pv 0)) (g_tup rfl (gs_cons (g_name (pg_name (i := 1) sc_is_kinds_value.nd rfl (by first | exact .inl rfl | exact .inr rfl))) (gs_cons (g_name (pg_name (i := 2) sc_is_kinds_value.nd rfl (by first | exact .inl rfl | exact .inr rfl))) gs_nil))))
    (s_cons (s_if (b_w (w_or (b_eq hu (e_var 1 (pv 1)) (e_tup a_nil)) (w_or (b_not (b_val (e_do gd tk ((ok_are_unlike T).up (by decide)) hr rfl T.d_are_unlike.hm T.d_are_unlike.fn.kp T.d_are_unlike.bd (a_cons (e_var 1 (pv 1)) a_nil)))) (w_or1 (b_not (b_val (e_isi rfl T.z_isinstance (e_var 2 (pv 2)) rfl T.z_tuple (by decide +kernel)))))))) (s_one (s_ret e_bl)) s_nil)
    (s_cons (s_if (b_not (b_val (e_all rfl rfl T.z_all (f_comp (own := [("tie", 3)]) rfl sc_is_kinds_value.nd (i_e (e_var 2 (pv 2))) (blkOk_by (N := ["thing", "places", "ties", "tie"]) (sc := defScope (top 22)) (by decide +kernel)) (fun _ _ _ _ _ => (g_name (pg_name (i := 3) sc_is_kinds_value.nd rfl (by first | exact .inl rfl | exact .inr rfl)))) (fun _ _ _ _ _ => c_yes) (fun _ _ _ _ _ => (e_do gd L2.takes0 ((ok_is_tie_kind T).up (by decide)) hr rfl T.d_is_tie_kind.hm T.d_is_tie_kind.fn.kp T.d_is_tie_kind.bd (a_cons (e_var 1 (pv 1)) (a_cons (e_var 3 (pv 3)) a_nil)))) (by decide))))) (s_one (s_ret e_bl)) s_nil)
    (s_one (s_ret (e_do gd tk ((ok_are_unlike T).up (by decide)) hr rfl T.d_are_unlike.hm T.d_are_unlike.fn.kp T.d_are_unlike.bd (a_cons (e_frz (f_comp (own := [("tie", 3)]) rfl sc_is_kinds_value.nd (i_e (e_var 2 (pv 2))) (blkOk_by (N := ["thing", "places", "ties", "tie"]) (sc := defScope (top 22)) (by decide +kernel)) (fun _ _ _ _ _ => (g_name (pg_name (i := 3) sc_is_kinds_value.nd rfl (by first | exact .inl rfl | exact .inr rfl)))) (fun _ _ _ _ _ => c_yes) (fun _ _ _ _ _ => (e_ix (e_var 3 (pv 3)) e_int)) (by decide))) a_nil))))))))
theorem sc_need_kinds : FnScope ["kinds"] ["kinds"] (defScope (top 23)) := ⟨rfl, rfl, rfl, by decide +kernel, rfl, by decide +kernel, by decide +kernel⟩
def F_need_kinds : FS := sIf (bNot (eT (eCall 1 G_is_kinds_value (eCons (eVar 0) (eNil))))) (sRaise "BadKinds" (eVar 0)) (sNx)
def G_need_kinds : Fn := bodyG 1 F_need_kinds
theorem ok_need_kinds (T : Pg P K mg) : FnG P w K mg base 5 T.d_need_kinds.f T.d_need_kinds.fd ["kinds"] (spG ⟨K, mg, J, stab⟩ 1 G_need_kinds) :=
  fnClr T.d_need_kinds.fn sc_need_kinds fun cdv A outer s H E gd hr tk hp =>
    have hu : (A.deeper (envOfC "need_kinds" (defScope (top 23)) s.heap.objs.size T.d_need_kinds.f cdv)).units + 65 < cLine := by have := hr.un; omega
    have hu1 := Nat.lt_of_le_of_lt (Nat.add_le_add_left (show 1 ≤ 65 by decide) _) hu
    (s_one (s_if (b_not (b_val (e_do gd tk ((ok_is_kinds_value T).up (by decide)) hr rfl T.d_is_kinds_value.hm T.d_is_kinds_value.fn.kp T.d_is_kinds_value.bd (a_cons (e_var 0 (pv 0)) a_nil)))) (s_one (s_raise tk rfl T.x_BadKinds.cc T.xf T.z_super hr rfl T.x_BadKinds.hm (e_var 0 (pv 0)))) s_nil))
theorem sc_ends_of : FnScope ["kinds", "kind", "found", "name", "ends", "size"] ["kinds", "kind"] (defScope (top 24)) := ⟨rfl, rfl, rfl, by decide +kernel, rfl, by decide +kernel, by decide +kernel⟩
def F_ends_of : FS := sSeq (sSet (.nm 2) (eMap .lst (eComp [3, 4, 5] (eIter (eOp gIx (eVar 0) (eOk (.int 1)))) (.tp [.nm 3, .nm 4, .nm 5]) (bAnd (eT (eIsi "str" (eVar 1))) (eB (eOp gEq (eVar 3) (eVar 1)))) (eVar 4))))
    (sRet (eIf (eB (eIsNil true (eLstV (eVar 2)))) (eOp gIx (eVar 2) (eOk (.int 0))) (eTup (eNil))))
def G_ends_of : Fn := bodyG 6 F_ends_of
theorem ok_ends_of (T : Pg P K mg) : FnG P w K mg base 1 T.d_ends_of.f T.d_ends_of.fd ["kinds", "kind"] (spG ⟨K, mg, J, stab⟩ 2 G_ends_of) :=
  fnClr T.d_ends_of.fn sc_ends_of fun cdv A outer s H E gd hr tk hp =>
    have hu : (A.deeper (envOfC "ends_of" (defScope (top 24)) s.heap.objs.size T.d_ends_of.f cdv)).units + 65 < cLine := by have := hr.un; omega
    have hu1 := Nat.lt_of_le_of_lt (Nat.add_le_add_left (show 1 ≤ 65 by decide) _) hu
    (s_cons (s_frzLc (i := 2) (own := [("name", 3), ("ends", 4), ("size", 5)]) rfl sc_ends_of.nd rfl rfl rfl (i_e (e_ix (e_var 0 (pv 0)) e_int)) (blkOk_by (N := ["kinds", "kind", "found", "name", "ends", "size"]) (sc := defScope (top 24)) (by decide +kernel)) (fun _ _ _ _ _ => (g_tup rfl (gs_cons (g_name (pg_name (i := 3) sc_ends_of.nd rfl (by first | exact .inl rfl | exact .inr rfl))) (gs_cons (g_name (pg_name (i := 4) sc_ends_of.nd rfl (by first | exact .inl rfl | exact .inr rfl))) (gs_cons (g_name (pg_name (i := 5) sc_ends_of.nd rfl (by first | exact .inl rfl | exact .inr rfl))) gs_nil))))) (fun _ _ _ _ _ => (c_if (b_w (w_and (b_val (e_isi rfl T.z_isinstance (e_var 1 (pv 1)) rfl T.z_str (by decide +kernel))) (w_and1 (b_eq hu (e_var 3 (pv 3)) (e_var 1 (pv 1)))))))) (fun _ _ _ _ _ => (e_var 4 (pv 4))) (by decide))
    (s_one (s_ret (e_ifExp (b_nilNe hu (l_e (e_var 2 (pv 2)))) (e_ix (e_var 2 (pv 2)) e_int) (e_tup a_nil)))))
theorem sc_size_of : FnScope ["kinds", "kind", "found", "name", "ends", "size"] ["kinds", "kind"] (defScope (top 25)) := ⟨rfl, rfl, rfl, by decide +kernel, rfl, by decide +kernel, by decide +kernel⟩
def F_size_of : FS := sSeq (sSet (.nm 2) (eMap .lst (eComp [3, 4, 5] (eIter (eOp gIx (eVar 0) (eOk (.int 1)))) (.tp [.nm 3, .nm 4, .nm 5]) (bAnd (eT (eIsi "str" (eVar 1))) (eB (eOp gEq (eVar 3) (eVar 1)))) (eVar 5))))
    (sRet (eIf (eB (eIsNil true (eLstV (eVar 2)))) (eOp gIx (eVar 2) (eOk (.int 0))) (eOk (.int 0))))
def G_size_of : Fn := bodyG 6 F_size_of
theorem ok_size_of (T : Pg P K mg) : FnG P w K mg base 1 T.d_size_of.f T.d_size_of.fd ["kinds", "kind"] (spG ⟨K, mg, J, stab⟩ 2 G_size_of) :=
  fnClr T.d_size_of.fn sc_size_of fun cdv A outer s H E gd hr tk hp =>
    have hu : (A.deeper (envOfC "size_of" (defScope (top 25)) s.heap.objs.size T.d_size_of.f cdv)).units + 65 < cLine := by have := hr.un; omega
    have hu1 := Nat.lt_of_le_of_lt (Nat.add_le_add_left (show 1 ≤ 65 by decide) _) hu
    (s_cons (s_frzLc (i := 2) (own := [("name", 3), ("ends", 4), ("size", 5)]) rfl sc_size_of.nd rfl rfl rfl (i_e (e_ix (e_var 0 (pv 0)) e_int)) (blkOk_by (N := ["kinds", "kind", "found", "name", "ends", "size"]) (sc := defScope (top 25)) (by decide +kernel)) (fun _ _ _ _ _ => (g_tup rfl (gs_cons (g_name (pg_name (i := 3) sc_size_of.nd rfl (by first | exact .inl rfl | exact .inr rfl))) (gs_cons (g_name (pg_name (i := 4) sc_size_of.nd rfl (by first | exact .inl rfl | exact .inr rfl))) (gs_cons (g_name (pg_name (i := 5) sc_size_of.nd rfl (by first | exact .inl rfl | exact .inr rfl))) gs_nil))))) (fun _ _ _ _ _ => (c_if (b_w (w_and (b_val (e_isi rfl T.z_isinstance (e_var 1 (pv 1)) rfl T.z_str (by decide +kernel))) (w_and1 (b_eq hu (e_var 3 (pv 3)) (e_var 1 (pv 1)))))))) (fun _ _ _ _ _ => (e_var 5 (pv 5))) (by decide))
    (s_one (s_ret (e_ifExp (b_nilNe hu (l_e (e_var 2 (pv 2)))) (e_ix (e_var 2 (pv 2)) e_int) e_int))))
theorem sc_is_tie_over : FnScope ["kinds", "places", "thing", "due", "end", "kind"] ["kinds", "places", "thing"] (defScope (top 29)) := ⟨rfl, rfl, rfl, by decide +kernel, rfl, by decide +kernel, by decide +kernel⟩
def F_is_tie_over : FS := sSeq (sIf (bOr (bNot (eT (eIsi "tuple" (eVar 2)))) (bOr (eB (eOp gNe (eBind (eCons (eVar 2) (eNil)) fun ds => optE (fLenV ds)) (eOk (.int (3))))) (bNot (eT (eIsi "tuple" (eOp gIx (eVar 2) (eOk (.int 2)))))))) (sRet (eOk (.bl false))) (sNx))
    (sSeq (sSet (.nm 3) (eCall 2 G_ends_of (eCons (eVar 0) (eCons (eOp gIx (eVar 2) (eOk (.int 0))) (eNil)))))
    (sSeq (sIf (bOr (bNot (eT (eCall 3 G_is_whole (eCons (eOp gIx (eVar 2) (eOk (.int 1))) (eCons (eOk (.int 0)) (eCons (eOp gSubI (eCall 2 G_size_of (eCons (eVar 0) (eCons (eOp gIx (eVar 2) (eOk (.int 0))) (eNil)))) (eOk (.int 1))) (eNil))))))) (eB (eOp gNe (eBind (eCons (eOp gIx (eVar 2) (eOk (.int 2))) (eNil)) fun ds => optE (fLenV ds)) (eBind (eCons (eVar 3) (eNil)) fun ds => optE (fLenV ds))))) (sRet (eOk (.bl false))) (sNx))
    (sSeq (sIf (bNot (eT (eBind (eComp [4] (eIter (eOp gIx (eVar 2) (eOk (.int 2)))) (.nm 4) (eOk true) (eCall 3 G_is_whole (eCons (eVar 4) (eCons (eOk (.int 0)) (eCons (eOp gSubI (eBind (eCons (eVar 1) (eNil)) fun ds => optE (fLenV ds)) (eOk (.int 1))) (eNil)))))) fun ds => optE (fAll ds)))) (sRet (eOk (.bl false))) (sNx))
    (sRet (eBind (eComp [4, 5] (eBind (eCons (eOp gIx (eVar 2) (eOk (.int 2))) (eCons (eVar 3) (eNil))) zipOf) (.tp [.nm 4, .nm 5]) (eOk true) (eOp gEq (eOp gIx (eVar 1) (eVar 4)) (eVar 5))) fun ds => optE (fAll ds))))))
def G_is_tie_over : Fn := bodyG 6 F_is_tie_over
theorem ok_is_tie_over (T : Pg P K mg) : FnG P w K mg base 2 T.d_is_tie_over.f T.d_is_tie_over.fd ["kinds", "places", "thing"] (spG ⟨K, mg, J, stab⟩ 3 G_is_tie_over) :=
  fnClr T.d_is_tie_over.fn sc_is_tie_over fun cdv A outer s H E gd hr tk hp =>
    have hu : (A.deeper (envOfC "is_tie_over" (defScope (top 29)) s.heap.objs.size T.d_is_tie_over.f cdv)).units + 65 < cLine := by have := hr.un; omega
    have hu1 := Nat.lt_of_le_of_lt (Nat.add_le_add_left (show 1 ≤ 65 by decide) _) hu
    (s_cons (s_if (b_w (w_or (b_not (b_val (e_isi rfl T.z_isinstance (e_var 2 (pv 2)) rfl T.z_tuple (by decide +kernel)))) (w_or (b_ne hu (e_len rfl T.z_len (a_cons (e_var 2 (pv 2)) a_nil)) (e_gI rfl T.c_TIE_PARTS)) (w_or1 (b_not (b_val (e_isi rfl T.z_isinstance (e_ix (e_var 2 (pv 2)) e_int) rfl T.z_tuple (by decide +kernel)))))))) (s_one (s_ret e_bl)) s_nil)
    (s_cons (s_asg (e_do gd tk ((ok_ends_of T).up (by decide)) hr rfl T.d_ends_of.hm T.d_ends_of.fn.kp T.d_ends_of.bd (a_cons (e_var 0 (pv 0)) (a_cons (e_ix (e_var 2 (pv 2)) e_int) a_nil))) (g_name (pg_name (i := 3) sc_is_tie_over.nd rfl (by first | exact .inl rfl | exact .inr rfl))))
    (s_cons (s_if (b_w (w_or (b_not (b_val (e_do gd tk ((ok_is_whole T).up (by decide)) hr rfl T.d_is_whole.hm T.d_is_whole.fn.kp T.d_is_whole.bd (a_cons (e_ix (e_var 2 (pv 2)) e_int) (a_cons e_int (a_cons (e_sub (e_do gd tk ((ok_size_of T).up (by decide)) hr rfl T.d_size_of.hm T.d_size_of.fn.kp T.d_size_of.bd (a_cons (e_var 0 (pv 0)) (a_cons (e_ix (e_var 2 (pv 2)) e_int) a_nil))) e_int) a_nil)))))) (w_or1 (b_ne hu (e_len rfl T.z_len (a_cons (e_ix (e_var 2 (pv 2)) e_int) a_nil)) (e_len rfl T.z_len (a_cons (e_var 3 (pv 3)) a_nil)))))) (s_one (s_ret e_bl)) s_nil)
    (s_cons (s_if (b_not (b_val (e_all rfl rfl T.z_all (f_comp (own := [("end", 4)]) rfl sc_is_tie_over.nd (i_e (e_ix (e_var 2 (pv 2)) e_int)) (blkOk_by (N := ["kinds", "places", "thing", "due", "end", "kind"]) (sc := defScope (top 29)) (by decide +kernel)) (fun _ _ _ _ _ => (g_name (pg_name (i := 4) sc_is_tie_over.nd rfl (by first | exact .inl rfl | exact .inr rfl)))) (fun _ _ _ _ _ => c_yes) (fun _ _ _ _ _ => (e_do gd L2.takes0 ((ok_is_whole T).up (by decide)) hr rfl T.d_is_whole.hm T.d_is_whole.fn.kp T.d_is_whole.bd (a_cons (e_var 4 (pv 4)) (a_cons e_int (a_cons (e_sub (e_len rfl T.z_len (a_cons (e_var 1 (pv 1)) a_nil)) e_int) a_nil))))) (by decide))))) (s_one (s_ret e_bl)) s_nil)
    (s_one (s_ret (e_all rfl rfl T.z_all (f_comp (own := [("end", 4), ("kind", 5)]) rfl sc_is_tie_over.nd (i_zip rfl T.z_zip (a_cons (e_ix (e_var 2 (pv 2)) e_int) (a_cons (e_var 3 (pv 3)) a_nil))) (blkOk_by (N := ["kinds", "places", "thing", "due", "end", "kind"]) (sc := defScope (top 29)) (by decide +kernel)) (fun _ _ _ _ _ => (g_tup rfl (gs_cons (g_name (pg_name (i := 4) sc_is_tie_over.nd rfl (by first | exact .inl rfl | exact .inr rfl))) (gs_cons (g_name (pg_name (i := 5) sc_is_tie_over.nd rfl (by first | exact .inl rfl | exact .inr rfl))) gs_nil)))) (fun _ _ _ _ _ => c_yes) (fun _ _ _ _ _ => (e_eq hu (e_ix (e_var 1 (pv 1)) (e_var 4 (pv 4))) (e_var 5 (pv 5)))) (by decide)))))))))
theorem sc_are_ties_over : FnScope ["kinds", "places", "thing", "tie"] ["kinds", "places", "thing"] (defScope (top 30)) := ⟨rfl, rfl, rfl, by decide +kernel, rfl, by decide +kernel, by decide +kernel⟩
def F_are_ties_over : FS := sSeq (sIf (bOr (bNot (eT (eCall 1 G_is_short (eCons (eVar 2) (eNil))))) (bNot (eT (eBind (eComp [3] (eIter (eVar 2)) (.nm 3) (eOk true) (eCall 3 G_is_tie_over (eCons (eVar 0) (eCons (eVar 1) (eCons (eVar 3) (eNil)))))) fun ds => optE (fAll ds))))) (sRet (eOk (.bl false))) (sNx))
    (sRet (eCall 1 G_are_in_order (eCons (eVar 2) (eNil))))
def G_are_ties_over : Fn := bodyG 4 F_are_ties_over
theorem ok_are_ties_over (T : Pg P K mg) : FnG P w K mg base 3 T.d_are_ties_over.f T.d_are_ties_over.fd ["kinds", "places", "thing"] (spG ⟨K, mg, J, stab⟩ 3 G_are_ties_over) :=
  fnClr T.d_are_ties_over.fn sc_are_ties_over fun cdv A outer s H E gd hr tk hp =>
    have hu : (A.deeper (envOfC "are_ties_over" (defScope (top 30)) s.heap.objs.size T.d_are_ties_over.f cdv)).units + 65 < cLine := by have := hr.un; omega
    have hu1 := Nat.lt_of_le_of_lt (Nat.add_le_add_left (show 1 ≤ 65 by decide) _) hu
    (s_cons (s_if (b_w (w_or (b_not (b_val (e_do gd tk ((ok_is_short T).up (by decide)) hr rfl T.d_is_short.hm T.d_is_short.fn.kp T.d_is_short.bd (a_cons (e_var 2 (pv 2)) a_nil)))) (w_or1 (b_not (b_val (e_all rfl rfl T.z_all (f_comp (own := [("tie", 3)]) rfl sc_are_ties_over.nd (i_e (e_var 2 (pv 2))) (blkOk_by (N := ["kinds", "places", "thing", "tie"]) (sc := defScope (top 30)) (by decide +kernel)) (fun _ _ _ _ _ => (g_name (pg_name (i := 3) sc_are_ties_over.nd rfl (by first | exact .inl rfl | exact .inr rfl)))) (fun _ _ _ _ _ => c_yes) (fun _ _ _ _ _ => (e_do gd L2.takes0 ((ok_is_tie_over T).up (by decide)) hr rfl T.d_is_tie_over.hm T.d_is_tie_over.fn.kp T.d_is_tie_over.bd (a_cons (e_var 0 (pv 0)) (a_cons (e_var 1 (pv 1)) (a_cons (e_var 3 (pv 3)) a_nil))))) (by decide)))))))) (s_one (s_ret e_bl)) s_nil)
    (s_one (s_ret (e_do gd tk ((ok_are_in_order T).up (by decide)) hr rfl T.d_are_in_order.hm T.d_are_in_order.fn.kp T.d_are_in_order.bd (a_cons (e_var 2 (pv 2)) a_nil)))))
theorem sc_is_pattern_value : FnScope ["kinds", "thing", "place"] ["kinds", "thing"] (defScope (top 31)) := ⟨rfl, rfl, rfl, by decide +kernel, rfl, by decide +kernel, by decide +kernel⟩
def F_is_pattern_value : FS := sSeq (sIf (bOr (bNot (eT (eIsi "tuple" (eVar 1)))) (bOr (eB (eOp gNe (eBind (eCons (eVar 1) (eNil)) fun ds => optE (fLenV ds)) (eOk (.int (2))))) (bNot (eT (eCall 1 G_is_short (eCons (eOp gIx (eVar 1) (eOk (.int 0))) (eNil))))))) (sRet (eOk (.bl false))) (sNx))
    (sSeq (sIf (bNot (eT (eBind (eComp [2] (eIter (eOp gIx (eVar 1) (eOk (.int 0)))) (.nm 2) (eOk true) (eAndV (eIsi "str" (eVar 2)) (eOp gIn (eVar 2) (eOp gIx (eVar 0) (eOk (.int 0)))))) fun ds => optE (fAll ds)))) (sRet (eOk (.bl false))) (sNx))
    (sRet (eCall 3 G_are_ties_over (eCons (eVar 0) (eCons (eOp gIx (eVar 1) (eOk (.int 0))) (eCons (eOp gIx (eVar 1) (eOk (.int 1))) (eNil)))))))
def G_is_pattern_value : Fn := bodyG 3 F_is_pattern_value
theorem ok_is_pattern_value (T : Pg P K mg) : FnG P w K mg base 4 T.d_is_pattern_value.f T.d_is_pattern_value.fd ["kinds", "thing"] (spG ⟨K, mg, J, stab⟩ 2 G_is_pattern_value) :=
  fnClr T.d_is_pattern_value.fn sc_is_pattern_value fun cdv A outer s H E gd hr tk hp =>
    have hu : (A.deeper (envOfC "is_pattern_value" (defScope (top 31)) s.heap.objs.size T.d_is_pattern_value.f cdv)).units + 65 < cLine := by have := hr.un; omega
    have hu1 := Nat.lt_of_le_of_lt (Nat.add_le_add_left (show 1 ≤ 65 by decide) _) hu
    (s_cons (s_if (b_w (w_or (b_not (b_val (e_isi rfl T.z_isinstance (e_var 1 (pv 1)) rfl T.z_tuple (by decide +kernel)))) (w_or (b_ne hu (e_len rfl T.z_len (a_cons (e_var 1 (pv 1)) a_nil)) (e_gI rfl T.c_PAIR_patterns)) (w_or1 (b_not (b_val (e_do gd tk ((ok_is_short T).up (by decide)) hr rfl T.d_is_short.hm T.d_is_short.fn.kp T.d_is_short.bd (a_cons (e_ix (e_var 1 (pv 1)) e_int) a_nil)))))))) (s_one (s_ret e_bl)) s_nil)
    (s_cons (s_if (b_not (b_val (e_all rfl rfl T.z_all (f_comp (own := [("place", 2)]) rfl sc_is_pattern_value.nd (i_e (e_ix (e_var 1 (pv 1)) e_int)) (blkOk_by (N := ["kinds", "thing", "place"]) (sc := defScope (top 31)) (by decide +kernel)) (fun _ _ _ _ _ => (g_name (pg_name (i := 2) sc_is_pattern_value.nd rfl (by first | exact .inl rfl | exact .inr rfl)))) (fun _ _ _ _ _ => c_yes) (fun _ _ _ _ _ => (e_and (e_isi rfl T.z_isinstance (e_var 2 (pv 2)) rfl T.z_str (by decide +kernel)) (e_one (e_in hu (e_var 2 (pv 2)) (e_ix (e_var 0 (pv 0)) e_int) (by rfl))))) (by decide))))) (s_one (s_ret e_bl)) s_nil)
    (s_one (s_ret (e_do gd tk ((ok_are_ties_over T).up (by decide)) hr rfl T.d_are_ties_over.hm T.d_are_ties_over.fn.kp T.d_are_ties_over.bd (a_cons (e_var 0 (pv 0)) (a_cons (e_ix (e_var 1 (pv 1)) e_int) (a_cons (e_ix (e_var 1 (pv 1)) e_int) a_nil))))))))
theorem sc_need_pattern : FnScope ["kinds", "pattern"] ["kinds", "pattern"] (defScope (top 32)) := ⟨rfl, rfl, rfl, by decide +kernel, rfl, by decide +kernel, by decide +kernel⟩
def F_need_pattern : FS := sIf (bNot (eT (eCall 2 G_is_pattern_value (eCons (eVar 0) (eCons (eVar 1) (eNil)))))) (sRaise "BadPattern" (eVar 1)) (sNx)
def G_need_pattern : Fn := bodyG 2 F_need_pattern
theorem ok_need_pattern (T : Pg P K mg) : FnG P w K mg base 5 T.d_need_pattern.f T.d_need_pattern.fd ["kinds", "pattern"] (spG ⟨K, mg, J, stab⟩ 2 G_need_pattern) :=
  fnClr T.d_need_pattern.fn sc_need_pattern fun cdv A outer s H E gd hr tk hp =>
    have hu : (A.deeper (envOfC "need_pattern" (defScope (top 32)) s.heap.objs.size T.d_need_pattern.f cdv)).units + 65 < cLine := by have := hr.un; omega
    have hu1 := Nat.lt_of_le_of_lt (Nat.add_le_add_left (show 1 ≤ 65 by decide) _) hu
    (s_one (s_if (b_not (b_val (e_do gd tk ((ok_is_pattern_value T).up (by decide)) hr rfl T.d_is_pattern_value.hm T.d_is_pattern_value.fn.kp T.d_is_pattern_value.bd (a_cons (e_var 0 (pv 0)) (a_cons (e_var 1 (pv 1)) a_nil))))) (s_one (s_raise tk rfl T.x_BadPattern.cc T.xf T.z_super hr rfl T.x_BadPattern.hm (e_var 1 (pv 1)))) s_nil))
theorem sc_maps_of : FnScope ["places", "others", "found", "kind", "numbers", "number", "own", "row"] ["places", "others"] (defScope (top 35)) := ⟨rfl, rfl, rfl, by decide +kernel, rfl, by decide +kernel, by decide +kernel⟩
def F_maps_of : FS := sSeq (sSet (.nm 2) (eMap .lst (eLst (eCons (eTup (eNil)) (eNil)))))
    (sSeq (sFor (eIter (eVar 1)) (.nm 3) (sSeq (sSet (.nm 4) (eMap .lst (eCat (eLst (eCons (eOk (.int (-1))) (eNil))) (eComp [5, 6] (eBind (eCons (eVar 0) (eNil)) enumOf) (.tp [.nm 5, .nm 6]) (eB (eOp gEq (eVar 6) (eVar 3))) (eVar 5)))))
    (sSet (.nm 2) (eMap .lst (eComp2 [7, 5] (eIter (eVar 2)) (.nm 7) (eOk true) [5] (eIter (eVar 4)) (.nm 5) (bOr (eB (eOp gEq (eVar 5) (eOk (.int (-1))))) (eB (eOp gNin (eVar 5) (eVar 7)))) (eTup (eStar (eSeq (eVar 7)) (eCons (eVar 5) (eNil)))))))))
    (sRet (eVar 2)))
def G_maps_of : Fn := bodyG 8 F_maps_of
theorem ok_maps_of (T : Pg P K mg) : FnG P w K mg base 1 T.d_maps_of.f T.d_maps_of.fd ["places", "others"] (spG ⟨K, mg, J, stab⟩ 2 G_maps_of) :=
  fnClr T.d_maps_of.fn sc_maps_of fun cdv A outer s H E gd hr tk hp =>
    have hu : (A.deeper (envOfC "maps_of" (defScope (top 35)) s.heap.objs.size T.d_maps_of.f cdv)).units + 65 < cLine := by have := hr.un; omega
    have hu1 := Nat.lt_of_le_of_lt (Nat.add_le_add_left (show 1 ≤ 65 by decide) _) hu
    (s_cons (s_asg (e_frz (f_lst (a_cons (e_tup a_nil) a_nil))) (g_name (pg_name (i := 2) sc_maps_of.nd rfl (by first | exact .inl rfl | exact .inr rfl))))
    (s_cons (s_for hp rfl (i_e (e_var 1 (pv 1))) (g_name (pg_name (i := 3) sc_maps_of.nd rfl (by first | exact .inl rfl | exact .inr rfl))) (s_cons (s_asg (e_frz (f_cat (ls_f (f_lst (a_cons (e_gI rfl T.c_OUTSIDE) a_nil))) (l_f (f_comp (own := [("number", 5), ("own", 6)]) rfl sc_maps_of.nd (i_enum rfl T.z_enumerate (a_cons (e_var 0 (pv 0)) a_nil)) (blkOk_by (N := ["places", "others", "found", "kind", "numbers", "number", "own", "row"]) (sc := defScope (top 35)) (by decide +kernel)) (fun _ _ _ _ _ => (g_tup rfl (gs_cons (g_name (pg_name (i := 5) sc_maps_of.nd rfl (by first | exact .inl rfl | exact .inr rfl))) (gs_cons (g_name (pg_name (i := 6) sc_maps_of.nd rfl (by first | exact .inl rfl | exact .inr rfl))) gs_nil)))) (fun _ _ _ _ _ => (c_if (b_eq hu (e_var 6 (pv 6)) (e_var 3 (pv 3))))) (fun _ _ _ _ _ => (e_var 5 (pv 5))) (by decide))))) (g_name (pg_name (i := 4) sc_maps_of.nd rfl (by first | exact .inl rfl | exact .inr rfl))))
    (s_one (s_frzLc2 (i := 2) (own := [("row", 7), ("number", 5)]) (vs1 := [5]) rfl sc_maps_of.nd rfl rfl rfl (i_e (e_var 2 (pv 2))) (blkOk_by (N := ["places", "others", "found", "kind", "numbers", "number", "own", "row"]) (sc := defScope (top 35)) (by decide +kernel)) (fun _ _ _ _ _ => (g_name (pg_name (i := 7) sc_maps_of.nd rfl (by first | exact .inl rfl | exact .inr rfl)))) (fun _ _ _ _ _ => c_yes) (fun _ _ _ _ _ => (i_e (e_var 4 (pv 4)))) (fun _ _ _ _ _ => (g_name (pg_name (i := 5) sc_maps_of.nd rfl (by first | exact .inl rfl | exact .inr rfl)))) (fun _ _ _ _ _ => (c_if (b_w (w_or (b_eq hu (e_var 5 (pv 5)) (e_gI rfl T.c_OUTSIDE)) (w_or1 (b_nin hu (e_var 5 (pv 5)) (e_var 7 (pv 7)) (by rfl))))))) (fun _ _ _ _ _ => (e_tup (a_star (sq_e (e_var 7 (pv 7))) (a_cons (e_var 5 (pv 5)) a_nil)))) (by decide) (by decide) (by decide)))))
    (s_one (s_ret (e_var 2 (pv 2))))))
theorem sc_images_of : FnScope ["one", "other", "onto", "found", "further", "number"] ["one", "other", "onto"] (defScope (top 36)) := ⟨rfl, rfl, rfl, by decide +kernel, rfl, by decide +kernel, by decide +kernel⟩
def F_images_of : FS := sSeq (sPar [3, 4] (mNew (eLst (eNil)) (mVal (eBind (eCons (eOp gIx (eVar 0) (eOk (.int 0))) (eNil)) fun ds => optE (fLenV ds)) (mNil))))
    (sSeq (sFor (eIter (eVar 2)) (.nm 5) (sSeq (sDrop (eOwnM 3 oAppend (eCons (eIf (eB (eOp gEq (eVar 5) (eOk (.int (-1))))) (eVar 4) (eVar 5)) (eNil))))
    (sSet (.nm 4) (eOp gAdd (eVar 4) (eBind (eCons (eOp gEq (eVar 5) (eOk (.int (-1)))) (eNil)) fun ds => optE (fInt ds))))))
    (sRet (eMap .tup (eOwn 3))))
def G_images_of : Fn := bodyG 6 F_images_of
theorem ok_images_of (T : Pg P K mg) : FnG P w K mg base 1 T.d_images_of.f T.d_images_of.fd ["one", "other", "onto"] (spG ⟨K, mg, J, stab⟩ 3 G_images_of) :=
  fnClr T.d_images_of.fn sc_images_of fun cdv A outer s H E gd hr tk hp =>
    have hu : (A.deeper (envOfC "images_of" (defScope (top 36)) s.heap.objs.size T.d_images_of.f cdv)).units + 65 < cLine := by have := hr.un; omega
    have hu1 := Nat.lt_of_le_of_lt (Nat.add_le_add_left (show 1 ≤ 65 by decide) _) hu
    (s_cons (s_par2 (i := 3) (j := 4) rfl sc_images_of.nd rfl rfl rfl rfl (m_new (f_lst a_nil) (m_val (e_len rfl T.z_len (a_cons (e_ix (e_var 0 (pv 0)) e_int) a_nil)) m_nil)))
    (s_cons (s_for hp rfl (i_e (e_var 2 (pv 2))) (g_name (pg_name (i := 5) sc_images_of.nd rfl (by first | exact .inl rfl | exact .inr rfl))) (s_cons (s_expr (e_ownM md_append PySem.F.slot_list_append PySem.F.type_list_append mt_append (pv 3) (a_cons (e_ifExp (b_eq hu (e_var 5 (pv 5)) (e_gI rfl T.c_OUTSIDE)) (e_var 4 (pv 4)) (e_var 5 (pv 5))) a_nil)))
    (s_one (s_asg (e_add (e_var 4 (pv 4)) (e_int1 rfl T.z_int (a_cons (e_eq hu (e_var 5 (pv 5)) (e_gI rfl T.c_OUTSIDE)) a_nil))) (g_name (pg_name (i := 4) sc_images_of.nd rfl (by first | exact .inl rfl | exact .inr rfl)))))))
    (s_one (s_ret (e_tuple rfl T.z_tuple (sq_own 3 (pv 3)))))))
theorem sc_is_map : FnScope ["one", "other", "thing", "number", "told", "kind"] ["one", "other", "thing"] (defScope (top 37)) := ⟨rfl, rfl, rfl, by decide +kernel, rfl, by decide +kernel, by decide +kernel⟩
def F_is_map : FS := sSeq (sIf (bOr (bNot (eT (eIsi "tuple" (eVar 2)))) (eB (eOp gNe (eBind (eCons (eVar 2) (eNil)) fun ds => optE (fLenV ds)) (eBind (eCons (eOp gIx (eVar 1) (eOk (.int 0))) (eNil)) fun ds => optE (fLenV ds))))) (sRet (eOk (.bl false))) (sNx))
    (sSeq (sIf (bNot (eT (eBind (eComp [3] (eIter (eVar 2)) (.nm 3) (eOk true) (eCall 3 G_is_whole (eCons (eVar 3) (eCons (eOk (.int (-1))) (eCons (eOp gSubI (eBind (eCons (eOp gIx (eVar 0) (eOk (.int 0))) (eNil)) fun ds => optE (fLenV ds)) (eOk (.int 1))) (eNil)))))) fun ds => optE (fAll ds)))) (sRet (eOk (.bl false))) (sNx))
    (sSeq (sSet (.nm 4) (eMap .lst (eComp [3] (eIter (eVar 2)) (.nm 3) (eB (eOp gNe (eVar 3) (eOk (.int (-1))))) (eVar 3))))
    (sSeq (sIf (eB (eOp gLt (eBind (eDcomp [3] (eIter (eVar 4)) (.nm 3) (eOk true) (eVar 3) (eOk (.bl true))) fun kd => eOk (.int kd.1.length)) (eBind (eCons (eVar 4) (eNil)) fun ds => optE (fLenV ds)))) (sRet (eOk (.bl false))) (sNx))
    (sRet (eBind (eComp [3, 5] (eBind (eCons (eVar 2) (eCons (eOp gIx (eVar 1) (eOk (.int 0))) (eNil))) zipOf) (.tp [.nm 3, .nm 5]) (eOk true) (eOrV (eOp gEq (eVar 3) (eOk (.int (-1)))) (eOp gEq (eOp gIx (eOp gIx (eVar 0) (eOk (.int 0))) (eVar 3)) (eVar 5)))) fun ds => optE (fAll ds))))))
def G_is_map : Fn := bodyG 6 F_is_map
theorem ok_is_map (T : Pg P K mg) : FnG P w K mg base 2 T.d_is_map.f T.d_is_map.fd ["one", "other", "thing"] (spG ⟨K, mg, J, stab⟩ 3 G_is_map) :=
  fnClr T.d_is_map.fn sc_is_map fun cdv A outer s H E gd hr tk hp =>
    have hu : (A.deeper (envOfC "is_map" (defScope (top 37)) s.heap.objs.size T.d_is_map.f cdv)).units + 65 < cLine := by have := hr.un; omega
    have hu1 := Nat.lt_of_le_of_lt (Nat.add_le_add_left (show 1 ≤ 65 by decide) _) hu
    (s_cons (s_if (b_w (w_or (b_not (b_val (e_isi rfl T.z_isinstance (e_var 2 (pv 2)) rfl T.z_tuple (by decide +kernel)))) (w_or1 (b_ne hu (e_len rfl T.z_len (a_cons (e_var 2 (pv 2)) a_nil)) (e_len rfl T.z_len (a_cons (e_ix (e_var 1 (pv 1)) e_int) a_nil)))))) (s_one (s_ret e_bl)) s_nil)
    (s_cons (s_if (b_not (b_val (e_all rfl rfl T.z_all (f_comp (own := [("number", 3)]) rfl sc_is_map.nd (i_e (e_var 2 (pv 2))) (blkOk_by (N := ["one", "other", "thing", "number", "told", "kind"]) (sc := defScope (top 37)) (by decide +kernel)) (fun _ _ _ _ _ => (g_name (pg_name (i := 3) sc_is_map.nd rfl (by first | exact .inl rfl | exact .inr rfl)))) (fun _ _ _ _ _ => c_yes) (fun _ _ _ _ _ => (e_do gd L2.takes0 ((ok_is_whole T).up (by decide)) hr rfl T.d_is_whole.hm T.d_is_whole.fn.kp T.d_is_whole.bd (a_cons (e_var 3 (pv 3)) (a_cons (e_gI rfl T.c_OUTSIDE) (a_cons (e_sub (e_len rfl T.z_len (a_cons (e_ix (e_var 0 (pv 0)) e_int) a_nil)) e_int) a_nil))))) (by decide))))) (s_one (s_ret e_bl)) s_nil)
    (s_cons (s_frzLc (i := 4) (own := [("number", 3)]) rfl sc_is_map.nd rfl rfl rfl (i_e (e_var 2 (pv 2))) (blkOk_by (N := ["one", "other", "thing", "number", "told", "kind"]) (sc := defScope (top 37)) (by decide +kernel)) (fun _ _ _ _ _ => (g_name (pg_name (i := 3) sc_is_map.nd rfl (by first | exact .inl rfl | exact .inr rfl)))) (fun _ _ _ _ _ => (c_if (b_ne hu (e_var 3 (pv 3)) (e_gI rfl T.c_OUTSIDE)))) (fun _ _ _ _ _ => (e_var 3 (pv 3))) (by decide))
    (s_cons (s_if (b_cmp op_lt od_lt (e_lenFd rfl T.z_len (f_dcomp (own := [("number", 3)]) rfl sc_is_map.nd (i_e (e_var 4 (pv 4))) (blkOk_by (N := ["one", "other", "thing", "number", "told", "kind"]) (sc := defScope (top 37)) (by decide +kernel)) (fun _ _ _ _ _ => (g_name (pg_name (i := 3) sc_is_map.nd rfl (by first | exact .inl rfl | exact .inr rfl)))) (fun _ _ _ _ _ => c_yes) (fun _ _ _ _ _ => (e_var 3 (pv 3))) (fun _ _ _ _ _ => e_bl) (by decide))) (e_len rfl T.z_len (a_cons (e_var 4 (pv 4)) a_nil)) (nomark _)) (s_one (s_ret e_bl)) s_nil)
    (s_one (s_ret (e_all rfl rfl T.z_all (f_comp (own := [("number", 3), ("kind", 5)]) rfl sc_is_map.nd (i_zip rfl T.z_zip (a_cons (e_var 2 (pv 2)) (a_cons (e_ix (e_var 1 (pv 1)) e_int) a_nil))) (blkOk_by (N := ["one", "other", "thing", "number", "told", "kind"]) (sc := defScope (top 37)) (by decide +kernel)) (fun _ _ _ _ _ => (g_tup rfl (gs_cons (g_name (pg_name (i := 3) sc_is_map.nd rfl (by first | exact .inl rfl | exact .inr rfl))) (gs_cons (g_name (pg_name (i := 5) sc_is_map.nd rfl (by first | exact .inl rfl | exact .inr rfl))) gs_nil)))) (fun _ _ _ _ _ => c_yes) (fun _ _ _ _ _ => (e_or (e_eq hu (e_var 3 (pv 3)) (e_gI rfl T.c_OUTSIDE)) (e_one (e_eq hu (e_ix (e_ix (e_var 0 (pv 0)) e_int) (e_var 3 (pv 3))) (e_var 5 (pv 5)))))) (by decide)))))))))
theorem sc_need_patterns : FnScope ["kinds", "one", "other"] ["kinds", "one", "other"] (defScope (top 38)) := ⟨rfl, rfl, rfl, by decide +kernel, rfl, by decide +kernel, by decide +kernel⟩
def F_need_patterns : FS := sSeq (sDrop (eCall 1 G_need_kinds (eCons (eVar 0) (eNil))))
    (sSeq (sDrop (eCall 2 G_need_pattern (eCons (eVar 0) (eCons (eVar 1) (eNil)))))
    (sIf (bNot (eT (eCall 2 G_is_pattern_value (eCons (eVar 0) (eCons (eVar 2) (eNil)))))) (sRaise "BadPattern" (eVar 2)) (sNx)))
def G_need_patterns : Fn := bodyG 3 F_need_patterns
theorem ok_need_patterns (T : Pg P K mg) : FnG P w K mg base 6 T.d_need_patterns.f T.d_need_patterns.fd ["kinds", "one", "other"] (spG ⟨K, mg, J, stab⟩ 3 G_need_patterns) :=
  fnClr T.d_need_patterns.fn sc_need_patterns fun cdv A outer s H E gd hr tk hp =>
    have hu : (A.deeper (envOfC "need_patterns" (defScope (top 38)) s.heap.objs.size T.d_need_patterns.f cdv)).units + 65 < cLine := by have := hr.un; omega
    have hu1 := Nat.lt_of_le_of_lt (Nat.add_le_add_left (show 1 ≤ 65 by decide) _) hu
    (s_cons (s_expr (e_do gd tk ((ok_need_kinds T).up (by decide)) hr rfl T.d_need_kinds.hm T.d_need_kinds.fn.kp T.d_need_kinds.bd (a_cons (e_var 0 (pv 0)) a_nil)))
    (s_cons (s_expr (e_do gd tk ((ok_need_pattern T).up (by decide)) hr rfl T.d_need_pattern.hm T.d_need_pattern.fn.kp T.d_need_pattern.bd (a_cons (e_var 0 (pv 0)) (a_cons (e_var 1 (pv 1)) a_nil))))
    (s_one (s_if (b_not (b_val (e_do gd tk ((ok_is_pattern_value T).up (by decide)) hr rfl T.d_is_pattern_value.hm T.d_is_pattern_value.fn.kp T.d_is_pattern_value.bd (a_cons (e_var 0 (pv 0)) (a_cons (e_var 2 (pv 2)) a_nil))))) (s_one (s_raise tk rfl T.x_BadPattern.cc T.xf T.z_super hr rfl T.x_BadPattern.hm (e_var 2 (pv 2)))) s_nil))))
theorem sc_need_map : FnScope ["kinds", "one", "other", "onto"] ["kinds", "one", "other", "onto"] (defScope (top 39)) := ⟨rfl, rfl, rfl, by decide +kernel, rfl, by decide +kernel, by decide +kernel⟩
def F_need_map : FS := sSeq (sDrop (eCall 3 G_need_patterns (eCons (eVar 0) (eCons (eVar 1) (eCons (eVar 2) (eNil))))))
    (sIf (bNot (eT (eCall 3 G_is_map (eCons (eVar 1) (eCons (eVar 2) (eCons (eVar 3) (eNil))))))) (sRaise "BadFit" (eVar 3)) (sNx))
def G_need_map : Fn := bodyG 4 F_need_map
theorem ok_need_map (T : Pg P K mg) : FnG P w K mg base 7 T.d_need_map.f T.d_need_map.fd ["kinds", "one", "other", "onto"] (spG ⟨K, mg, J, stab⟩ 4 G_need_map) :=
  fnClr T.d_need_map.fn sc_need_map fun cdv A outer s H E gd hr tk hp =>
    have hu : (A.deeper (envOfC "need_map" (defScope (top 39)) s.heap.objs.size T.d_need_map.f cdv)).units + 65 < cLine := by have := hr.un; omega
    have hu1 := Nat.lt_of_le_of_lt (Nat.add_le_add_left (show 1 ≤ 65 by decide) _) hu
    (s_cons (s_expr (e_do gd tk ((ok_need_patterns T).up (by decide)) hr rfl T.d_need_patterns.hm T.d_need_patterns.fn.kp T.d_need_patterns.bd (a_cons (e_var 0 (pv 0)) (a_cons (e_var 1 (pv 1)) (a_cons (e_var 2 (pv 2)) a_nil)))))
    (s_one (s_if (b_not (b_val (e_do gd tk ((ok_is_map T).up (by decide)) hr rfl T.d_is_map.hm T.d_is_map.fn.kp T.d_is_map.bd (a_cons (e_var 1 (pv 1)) (a_cons (e_var 2 (pv 2)) (a_cons (e_var 3 (pv 3)) a_nil)))))) (s_one (s_raise tk rfl T.x_BadFit.cc T.xf T.z_super hr rfl T.x_BadFit.hm (e_var 3 (pv 3)))) s_nil)))
theorem sc_maps : FnScope ["kinds", "one", "other"] ["kinds", "one", "other"] (defScope (top 40)) := ⟨rfl, rfl, rfl, by decide +kernel, rfl, by decide +kernel, by decide +kernel⟩
def F_maps : FS := sSeq (sDrop (eCall 3 G_need_patterns (eCons (eVar 0) (eCons (eVar 1) (eCons (eVar 2) (eNil))))))
    (sRet (eMap .tup (eSeq (eCall 2 G_maps_of (eCons (eOp gIx (eVar 1) (eOk (.int 0))) (eCons (eOp gIx (eVar 2) (eOk (.int 0))) (eNil)))))))
def G_maps : Fn := bodyG 3 F_maps
theorem ok_maps (T : Pg P K mg) : FnG P w K mg base 7 T.d_maps.f T.d_maps.fd ["kinds", "one", "other"] (spG ⟨K, mg, J, stab⟩ 3 G_maps) :=
  fnClr T.d_maps.fn sc_maps fun cdv A outer s H E gd hr tk hp =>
    have hu : (A.deeper (envOfC "maps" (defScope (top 40)) s.heap.objs.size T.d_maps.f cdv)).units + 65 < cLine := by have := hr.un; omega
    have hu1 := Nat.lt_of_le_of_lt (Nat.add_le_add_left (show 1 ≤ 65 by decide) _) hu
    (s_cons (s_expr (e_do gd tk ((ok_need_patterns T).up (by decide)) hr rfl T.d_need_patterns.hm T.d_need_patterns.fn.kp T.d_need_patterns.bd (a_cons (e_var 0 (pv 0)) (a_cons (e_var 1 (pv 1)) (a_cons (e_var 2 (pv 2)) a_nil)))))
    (s_one (s_ret (e_tuple rfl T.z_tuple (sq_e (e_do gd tk ((ok_maps_of T).up (by decide)) hr rfl T.d_maps_of.hm T.d_maps_of.fn.kp T.d_maps_of.bd (a_cons (e_ix (e_var 1 (pv 1)) e_int) (a_cons (e_ix (e_var 2 (pv 2)) e_int) a_nil))))))))
theorem sc_images : FnScope ["kinds", "one", "other", "onto"] ["kinds", "one", "other", "onto"] (defScope (top 41)) := ⟨rfl, rfl, rfl, by decide +kernel, rfl, by decide +kernel, by decide +kernel⟩
def F_images : FS := sSeq (sDrop (eCall 4 G_need_map (eCons (eVar 0) (eCons (eVar 1) (eCons (eVar 2) (eCons (eVar 3) (eNil)))))))
    (sRet (eCall 3 G_images_of (eCons (eVar 1) (eCons (eVar 2) (eCons (eVar 3) (eNil))))))
def G_images : Fn := bodyG 4 F_images
theorem ok_images (T : Pg P K mg) : FnG P w K mg base 8 T.d_images.f T.d_images.fd ["kinds", "one", "other", "onto"] (spG ⟨K, mg, J, stab⟩ 4 G_images) :=
  fnClr T.d_images.fn sc_images fun cdv A outer s H E gd hr tk hp =>
    have hu : (A.deeper (envOfC "images" (defScope (top 41)) s.heap.objs.size T.d_images.f cdv)).units + 65 < cLine := by have := hr.un; omega
    have hu1 := Nat.lt_of_le_of_lt (Nat.add_le_add_left (show 1 ≤ 65 by decide) _) hu
    (s_cons (s_expr (e_do gd tk ((ok_need_map T).up (by decide)) hr rfl T.d_need_map.hm T.d_need_map.fn.kp T.d_need_map.bd (a_cons (e_var 0 (pv 0)) (a_cons (e_var 1 (pv 1)) (a_cons (e_var 2 (pv 2)) (a_cons (e_var 3 (pv 3)) a_nil))))))
    (s_one (s_ret (e_do gd tk ((ok_images_of T).up (by decide)) hr rfl T.d_images_of.hm T.d_images_of.fn.kp T.d_images_of.bd (a_cons (e_var 1 (pv 1)) (a_cons (e_var 2 (pv 2)) (a_cons (e_var 3 (pv 3)) a_nil)))))))
theorem sc__law_deck : FnScope ["script", "mixed", "cell"] ["script"] (defScope (top 43)) := ⟨rfl, rfl, rfl, by decide +kernel, rfl, by decide +kernel, by decide +kernel⟩
def F__law_deck : FS := sSeq (sSet (.nm 1) (eOk (.int 21498000)))
    (sSeq (sFor (eSlF (eVar 0) (oNo) (oInt (eOk (.int 63)))) (.nm 2) (sSet (.nm 1) (eOp gMod (eBind (eCons (eOp gAdd (eOp gAdd (eOp gMulI (eVar 1) (eOk (.int 48271))) (eOp gMod (eBind (eCons (eVar 2) (eNil)) fun ds => optE (fInt ds)) (eOk (.int 2147483629)))) (eOk (.int 61))) (eNil)) fun ds => optE (fInt ds)) (eOk (.int 2147483587)))))
    (sRet (eDpub (eDisp [(eOk (.str "left"), ePub (eMap List.reverse (eComp [2] (eSlF (eVar 0) (oNo) (oInt (eOk (.int 63)))) (.nm 2) (eOk true) (eBind (eCons (eVar 2) (eNil)) fun ds => optE (fInt ds))))), (eOk (.str "mixed"), eVar 1), (eOk (.str "draws"), eOk (.int 0))]))))
def G__law_deck : Fn := bodyG 3 F__law_deck
theorem ok__law_deck (T : Pg P K mg) : FnG P w K mg base 1 T.d__law_deck.f T.d__law_deck.fd ["script"] (spG ⟨K, mg, J, stab⟩ 1 G__law_deck) :=
  fnClr T.d__law_deck.fn sc__law_deck fun cdv A outer s H E gd hr tk hp =>
    have hu : (A.deeper (envOfC "_law_deck" (defScope (top 43)) s.heap.objs.size T.d__law_deck.f cdv)).units + 65 < cLine := by have := hr.un; omega
    have hu1 := Nat.lt_of_le_of_lt (Nat.add_le_add_left (show 1 ≤ 65 by decide) _) hu
    (s_cons (s_asg e_int (g_name (pg_name (i := 1) sc__law_deck.nd rfl (by first | exact .inl rfl | exact .inr rfl))))
    (s_cons (s_for hp rfl (i_f (f_sliceF (e_var 0 (pv 0)) o_no (o_int e_int))) (g_name (pg_name (i := 2) sc__law_deck.nd rfl (by first | exact .inl rfl | exact .inr rfl))) (s_one (s_asg (e_mod (e_int1 rfl T.z_int (a_cons (e_add (e_add (e_mul (e_var 1 (pv 1)) e_int) (e_mod (e_int1 rfl T.z_int (a_cons (e_var 2 (pv 2)) a_nil)) e_int)) e_int) a_nil)) e_int) (g_name (pg_name (i := 1) sc__law_deck.nd rfl (by first | exact .inl rfl | exact .inr rfl))))))
    (s_one (s_ret (e_dpub (fd_d (pp_cons e_str (e_pub (f_rev (l_f (f_comp (own := [("cell", 2)]) rfl sc__law_deck.nd (i_f (f_sliceF (e_var 0 (pv 0)) o_no (o_int e_int))) (blkOk_by (N := ["script", "mixed", "cell"]) (sc := defScope (top 43)) (by decide +kernel)) (fun _ _ _ _ _ => (g_name (pg_name (i := 2) sc__law_deck.nd rfl (by first | exact .inl rfl | exact .inr rfl)))) (fun _ _ _ _ _ => c_yes) (fun _ _ _ _ _ => (e_int1 rfl T.z_int (a_cons (e_var 2 (pv 2)) a_nil))) (by decide))))) (pp_cons e_str (e_var 1 (pv 1)) (pp_cons e_str e_int pp_nil)))))))))
theorem sc__law_draw : FnScope ["deck", "many", "figure", "cell"] ["deck", "many"] (defScope (top 44)) := ⟨rfl, rfl, rfl, by decide +kernel, rfl, by decide +kernel, by decide +kernel⟩
def F__law_draw : FS := sSeq (sPut (eVar 0) (eOk (.str "draws")) (eOp gAdd (eBind (eVar 0) fun d => eBind (eOk (.str "draws")) fun y => subA d y) (eOk (.int 1))))
    (sSeq (sSet (.nm 2) (eOp gAdd (eBind (eVar 0) fun d => eBind (eOk (.str "mixed")) fun y => subA d y) (eOp gMulI (eOk (.int 57301)) (eBind (eVar 0) fun d => eBind (eOk (.str "draws")) fun y => subA d y))))
    (sSeq (sIf (eB (eIsNil true (eLstV (eBind (eVar 0) fun d => eBind (eOk (.str "left")) fun y => subA d y)))) (sSeq (sSet (.nm 3) (eRefM (eBind (eVar 0) fun d => eBind (eOk (.str "left")) fun y => subA d y) oPop eNil))
    (sSeq (sIf (eB (eOp gGe (eVar 3) (eOp gPow (eOk (.int 10)) (eOk (.int 18))))) (sSeq (sDrop (eRefM (eBind (eVar 0) fun d => eBind (eOk (.str "left")) fun y => subA d y) oAppend (eCons (eOp gFdiv (eVar 3) (eBind (eCons (eOk (.int 2)) (eCons (eVar 1) (eNil))) fun ds => optE (fMax2 ds))) (eNil))))
    (sRet (eOp gMod (eBind (eCons (eVar 3) (eNil)) fun ds => optE (fInt ds)) (eVar 1)))) (sNx))
    (sSet (.nm 2) (eOp gAdd (eVar 2) (eOp gMod (eBind (eCons (eVar 3) (eNil)) fun ds => optE (fInt ds)) (eOk (.int 2147483629))))))) (sNx))
    (sSeq (sSet (.nm 2) (eOp gMod (eBind (eCons (eOp gAdd (eOp gMulI (eVar 2) (eOk (.int 40014))) (eOk (.int 61879))) (eNil)) fun ds => optE (fInt ds)) (eOk (.int 2147483563))))
    (sSeq (sSet (.nm 2) (eOp gMod (eBind (eCons (eOp gAdd (eOp gAdd (eOp gMulI (eVar 2) (eVar 2)) (eOp gMulI (eOk (.int 53668)) (eBind (eVar 0) fun d => eBind (eOk (.str "draws")) fun y => subA d y))) (eOk (.int 29))) (eNil)) fun ds => optE (fInt ds)) (eOk (.int 2147483399))))
    (sSeq (sSet (.nm 2) (eOp gMod (eBind (eCons (eOp gMulI (eVar 2) (eOk (.int 40692))) (eNil)) fun ds => optE (fInt ds)) (eOk (.int 2147483647))))
    (sRet (eOp gMod (eBind (eCons (eOp gFdiv (eVar 2) (eOk (.int 64))) (eNil)) fun ds => optE (fInt ds)) (eVar 1))))))))
def G__law_draw : Fn := bodyG 4 F__law_draw
theorem ok__law_draw (T : Pg P K mg) : FnG P w K mg base 1 T.d__law_draw.f T.d__law_draw.fd ["deck", "many"] (spG ⟨K, mg, J, stab⟩ 2 G__law_draw) :=
  fnClr T.d__law_draw.fn sc__law_draw fun cdv A outer s H E gd hr tk hp =>
    have hu : (A.deeper (envOfC "_law_draw" (defScope (top 44)) s.heap.objs.size T.d__law_draw.f cdv)).units + 65 < cLine := by have := hr.un; omega
    have hu1 := Nat.lt_of_le_of_lt (Nat.add_le_add_left (show 1 ≤ 65 by decide) _) hu
    (s_cons (s_put hu1 (e_var 0 (pv 0)) e_str (e_add (e_dget hu1 (e_var 0 (pv 0)) e_str) e_int))
    (s_cons (s_asg (e_add (e_dget hu1 (e_var 0 (pv 0)) e_str) (e_mul e_int (e_dget hu1 (e_var 0 (pv 0)) e_str))) (g_name (pg_name (i := 2) sc__law_draw.nd rfl (by first | exact .inl rfl | exact .inr rfl))))
    (s_cons (s_if (b_nilNe hu (l_e (e_dget hu1 (e_var 0 (pv 0)) e_str))) (s_cons (s_asg (e_refM0 md_pop PySem.F.slot_list_pop PySem.F.type_list_pop mt_pop (e_dget hu1 (e_var 0 (pv 0)) e_str)) (g_name (pg_name (i := 3) sc__law_draw.nd rfl (by first | exact .inl rfl | exact .inr rfl))))
    (s_cons (s_if (b_cmp op_ge od_ge (e_var 3 (pv 3)) (e_pow e_int e_int) (nomark _)) (s_cons (s_expr (e_refM md_append PySem.F.slot_list_append PySem.F.type_list_append mt_append (e_dget hu1 (e_var 0 (pv 0)) e_str) (a_cons (e_fdiv (e_var 3 (pv 3)) (e_max2 rfl rfl T.z_max (a_cons e_int (a_cons (e_var 1 (pv 1)) a_nil)))) a_nil)))
    (s_one (s_ret (e_mod (e_int1 rfl T.z_int (a_cons (e_var 3 (pv 3)) a_nil)) (e_var 1 (pv 1)))))) s_nil)
    (s_one (s_asg (e_add (e_var 2 (pv 2)) (e_mod (e_int1 rfl T.z_int (a_cons (e_var 3 (pv 3)) a_nil)) e_int)) (g_name (pg_name (i := 2) sc__law_draw.nd rfl (by first | exact .inl rfl | exact .inr rfl))))))) s_nil)
    (s_cons (s_asg (e_mod (e_int1 rfl T.z_int (a_cons (e_add (e_mul (e_var 2 (pv 2)) e_int) e_int) a_nil)) e_int) (g_name (pg_name (i := 2) sc__law_draw.nd rfl (by first | exact .inl rfl | exact .inr rfl))))
    (s_cons (s_asg (e_mod (e_int1 rfl T.z_int (a_cons (e_add (e_add (e_mul (e_var 2 (pv 2)) (e_var 2 (pv 2))) (e_mul e_int (e_dget hu1 (e_var 0 (pv 0)) e_str))) e_int) a_nil)) e_int) (g_name (pg_name (i := 2) sc__law_draw.nd rfl (by first | exact .inl rfl | exact .inr rfl))))
    (s_cons (s_asg (e_mod (e_int1 rfl T.z_int (a_cons (e_mul (e_var 2 (pv 2)) e_int) a_nil)) e_int) (g_name (pg_name (i := 2) sc__law_draw.nd rfl (by first | exact .inl rfl | exact .inr rfl))))
    (s_one (s_ret (e_mod (e_int1 rfl T.z_int (a_cons (e_fdiv (e_var 2 (pv 2)) e_int) a_nil)) (e_var 1 (pv 1)))))))))))
theorem sc__law_pick : FnScope ["deck", "some"] ["deck", "some"] (defScope (top 45)) := ⟨rfl, rfl, rfl, by decide +kernel, rfl, by decide +kernel, by decide +kernel⟩
def F__law_pick : FS := sRet (eOp gIx (eVar 1) (eCall 2 G__law_draw (eCons (eVar 0) (eCons (eBind (eCons (eVar 1) (eNil)) fun ds => optE (fLenV ds)) (eNil)))))
def G__law_pick : Fn := bodyG 2 F__law_pick
theorem ok__law_pick (T : Pg P K mg) : FnG P w K mg base 2 T.d__law_pick.f T.d__law_pick.fd ["deck", "some"] (spG ⟨K, mg, J, stab⟩ 2 G__law_pick) :=
  fnClr T.d__law_pick.fn sc__law_pick fun cdv A outer s H E gd hr tk hp =>
    have hu : (A.deeper (envOfC "_law_pick" (defScope (top 45)) s.heap.objs.size T.d__law_pick.f cdv)).units + 65 < cLine := by have := hr.un; omega
    have hu1 := Nat.lt_of_le_of_lt (Nat.add_le_add_left (show 1 ≤ 65 by decide) _) hu
    (s_one (s_ret (e_ix (e_var 1 (pv 1)) (e_do gd tk ((ok__law_draw T).up (by decide)) hr rfl T.d__law_draw.hm T.d__law_draw.fn.kp T.d__law_draw.bd (a_cons (e_var 0 (pv 0)) (a_cons (e_len rfl T.z_len (a_cons (e_var 1 (pv 1)) a_nil)) a_nil))))))
theorem sc__law_mixed : FnScope ["deck", "some", "left", "found", "turn"] ["deck", "some"] (defScope (top 46)) := ⟨rfl, rfl, rfl, by decide +kernel, rfl, by decide +kernel, by decide +kernel⟩
def F__law_mixed : FS := sSeq (sPar [2, 3] (mNew (eSeq (eVar 1)) (mNew (eLst (eNil)) (mNil))))
    (sSeq (sFor (eBind (eCons (eBind (eOwn 2) fun ds => optE (fLen ds)) (eNil)) fun ds => optL (fRange1 ds)) (.nm 4) (sDrop (eOwnM 3 oAppend (eCons (eOwnM 2 oPopAt (eCons (eCall 2 G__law_draw (eCons (eVar 0) (eCons (eBind (eOwn 2) fun ds => optE (fLen ds)) (eNil)))) (eNil))) (eNil)))))
    (sRet (eGive 3)))
def G__law_mixed : Fn := bodyG 5 F__law_mixed
theorem ok__law_mixed (T : Pg P K mg) : FnG P w K mg base 2 T.d__law_mixed.f T.d__law_mixed.fd ["deck", "some"] (spG ⟨K, mg, J, stab⟩ 2 G__law_mixed) :=
  fnClr T.d__law_mixed.fn sc__law_mixed fun cdv A outer s H E gd hr tk hp =>
    have hu : (A.deeper (envOfC "_law_mixed" (defScope (top 46)) s.heap.objs.size T.d__law_mixed.f cdv)).units + 65 < cLine := by have := hr.un; omega
    have hu1 := Nat.lt_of_le_of_lt (Nat.add_le_add_left (show 1 ≤ 65 by decide) _) hu
    (s_cons (s_par2 (i := 2) (j := 3) rfl sc__law_mixed.nd rfl rfl rfl rfl (m_new (f_list rfl T.z_list (sq_e (e_var 1 (pv 1)))) (m_new (f_lst a_nil) m_nil)))
    (s_cons (s_for hp rfl (i_range1 rfl T.z_range (a_cons (e_lenS rfl T.z_len (sq_own 2 (pv 2))) a_nil)) (g_name (pg_name (i := 4) sc__law_mixed.nd rfl (by first | exact .inl rfl | exact .inr rfl))) (s_one (s_expr (e_ownM md_append PySem.F.slot_list_append PySem.F.type_list_append mt_append (pv 3) (a_cons (e_ownM md_popAt PySem.F.slot_list_pop PySem.F.type_list_pop mt_popAt (pv 2) (a_cons (e_do gd tk ((ok__law_draw T).up (by decide)) hr rfl T.d__law_draw.hm T.d__law_draw.fn.kp T.d__law_draw.bd (a_cons (e_var 0 (pv 0)) (a_cons (e_lenS rfl T.z_len (sq_own 2 (pv 2))) a_nil))) a_nil)) a_nil)))))
    (s_one (s_ret (e_give 3 (pv 3))))))
theorem sc__law_same : FnScope ["told", "due", "todo", "one", "other"] ["told", "due"] (defScope (top 47)) := ⟨rfl, rfl, rfl, by decide +kernel, rfl, by decide +kernel, by decide +kernel⟩
def fuel__law_same : Nat := 1048576
def F__law_same : FS := sSeq (sOwn 2 (eLst (eCons (eTup (eCons (eVar 0) (eCons (eVar 1) (eNil)))) (eNil))))
    (sSeq (whileGo (eB (eIsNil true (eOwn 2))) (sSeq (sSet (.tp [.nm 3, .nm 4]) (eOwnM 2 oPop eNil))
    (sIf (bOr (eT (eIsi "tuple" (eVar 4))) (eT (eIsi "list" (eVar 4)))) (sSeq (sIf (bOr (eB (eOp gNe (eIsi "tuple" (eVar 3)) (eIsi "tuple" (eVar 4)))) (eB (eOp gNe (eIsi "list" (eVar 3)) (eIsi "list" (eVar 4))))) (sRet (eOk (.bl false))) (sNx))
    (sSeq (sIf (eB (eOp gNe (eBind (eCons (eVar 3) (eNil)) fun ds => optE (fLenV ds)) (eBind (eCons (eVar 4) (eNil)) fun ds => optE (fLenV ds)))) (sRet (eOk (.bl false))) (sNx))
    (sDrop (eOwnX 2 (eBind (eCons (eVar 3) (eCons (eVar 4) (eNil))) zlOf))))) (sIf (bOr (eB (eOp gIsN (eVar 4) (eOk .non))) (eB (eOp gIsN (eVar 3) (eOk .non)))) (sIf (bOr (eB (eOp gIsNotN (eVar 3) (eOk .non))) (eB (eOp gIsNotN (eVar 4) (eOk .non)))) (sRet (eOk (.bl false))) (sNx)) (sIf (bOr (eB (eOp gNe (eIsi "bool" (eVar 3)) (eIsi "bool" (eVar 4)))) (eB (eOp gNe (eIsi "int" (eVar 3)) (eIsi "int" (eVar 4))))) (sRet (eOk (.bl false))) (sIf (bOr (eB (eOp gNe (eIsi "str" (eVar 3)) (eIsi "str" (eVar 4)))) (eB (eOp gNe (eVar 3) (eVar 4)))) (sRet (eOk (.bl false))) (sNx)))))) fuel__law_same)
    (sRet (eOk (.bl true))))
def G__law_same : Fn := bodyG 5 F__law_same
theorem ok__law_same (T : Pg P K mg) : FnG P w K mg base 1 T.d__law_same.f T.d__law_same.fd ["told", "due"] (spG ⟨K, mg, J, stab⟩ 2 G__law_same) :=
  fnClr T.d__law_same.fn sc__law_same fun cdv A outer s H E gd hr tk hp =>
    have hu : (A.deeper (envOfC "_law_same" (defScope (top 47)) s.heap.objs.size T.d__law_same.f cdv)).units + 65 < cLine := by have := hr.un; omega
    have hu1 := Nat.lt_of_le_of_lt (Nat.add_le_add_left (show 1 ≤ 65 by decide) _) hu
    (s_cons (s_own (i := 2) sc__law_same.nd rfl (by first | exact .inl rfl | exact .inr rfl) (f_lst (a_cons (e_tup (a_cons (e_var 0 (pv 0)) (a_cons (e_var 1 (pv 1)) a_nil))) a_nil)))
    (s_cons (s_while fuel__law_same hp (b_nilNe hu (l_own 2 (pv 2))) (s_cons (s_asg (e_ownM0 md_pop PySem.F.slot_list_pop PySem.F.type_list_pop mt_pop (pv 2)) (g_tup rfl (gs_cons (g_name (pg_name (i := 3) sc__law_same.nd rfl (by first | exact .inl rfl | exact .inr rfl))) (gs_cons (g_name (pg_name (i := 4) sc__law_same.nd rfl (by first | exact .inl rfl | exact .inr rfl))) gs_nil))))
    (s_one (s_if (b_w (w_or (b_val (e_isi rfl T.z_isinstance (e_var 4 (pv 4)) rfl T.z_tuple (by decide +kernel))) (w_or1 (b_val (e_isi rfl T.z_isinstance (e_var 4 (pv 4)) rfl T.z_list (by decide +kernel)))))) (s_cons (s_if (b_w (w_or (b_ne hu (e_isi rfl T.z_isinstance (e_var 3 (pv 3)) rfl T.z_tuple (by decide +kernel)) (e_isi rfl T.z_isinstance (e_var 4 (pv 4)) rfl T.z_tuple (by decide +kernel))) (w_or1 (b_ne hu (e_isi rfl T.z_isinstance (e_var 3 (pv 3)) rfl T.z_list (by decide +kernel)) (e_isi rfl T.z_isinstance (e_var 4 (pv 4)) rfl T.z_list (by decide +kernel)))))) (s_one (s_ret e_bl)) s_nil)
    (s_cons (s_if (b_ne hu (e_len rfl T.z_len (a_cons (e_var 3 (pv 3)) a_nil)) (e_len rfl T.z_len (a_cons (e_var 4 (pv 4)) a_nil))) (s_one (s_ret e_bl)) s_nil)
    (s_one (s_expr (e_ownX (pv 2) (f_listzip rfl rfl T.z_list rfl T.z_zip (a_cons (e_var 3 (pv 3)) (a_cons (e_var 4 (pv 4)) a_nil)))))))) (s_one (s_if (b_w (w_or (b_cmp op_isN od_isN (e_var 4 (pv 4)) e_non (nomark _)) (w_or1 (b_cmp op_isN od_isN (e_var 3 (pv 3)) e_non (nomark _))))) (s_one (s_if (b_w (w_or (b_cmp op_notN od_notN (e_var 3 (pv 3)) e_non (nomark _)) (w_or1 (b_cmp op_notN od_notN (e_var 4 (pv 4)) e_non (nomark _))))) (s_one (s_ret e_bl)) s_nil)) (s_one (s_if (b_w (w_or (b_ne hu (e_isi rfl T.z_isinstance (e_var 3 (pv 3)) rfl T.z_bool (by decide +kernel)) (e_isi rfl T.z_isinstance (e_var 4 (pv 4)) rfl T.z_bool (by decide +kernel))) (w_or1 (b_ne hu (e_isi rfl T.z_isinstance (e_var 3 (pv 3)) rfl T.z_int (by decide +kernel)) (e_isi rfl T.z_isinstance (e_var 4 (pv 4)) rfl T.z_int (by decide +kernel)))))) (s_one (s_ret e_bl)) (s_one (s_if (b_w (w_or (b_ne hu (e_isi rfl T.z_isinstance (e_var 3 (pv 3)) rfl T.z_str (by decide +kernel)) (e_isi rfl T.z_isinstance (e_var 4 (pv 4)) rfl T.z_str (by decide +kernel))) (w_or1 (b_ne hu (e_var 3 (pv 3)) (e_var 4 (pv 4)))))) (s_one (s_ret e_bl)) s_nil))))))))))
    (s_one (s_ret e_bl))))
theorem sc__law_is_whole : FnScope ["thing"] ["thing"] (defScope (top 48)) := ⟨rfl, rfl, rfl, by decide +kernel, rfl, by decide +kernel, by decide +kernel⟩
def F__law_is_whole : FS := sRet (eAndV (eIsi "int" (eVar 0)) (eNotV (eIsi "bool" (eVar 0))))
def G__law_is_whole : Fn := bodyG 1 F__law_is_whole
theorem ok__law_is_whole (T : Pg P K mg) : FnG P w K mg base 1 T.d__law_is_whole.f T.d__law_is_whole.fd ["thing"] (spG ⟨K, mg, J, stab⟩ 1 G__law_is_whole) :=
  fnClr T.d__law_is_whole.fn sc__law_is_whole fun cdv A outer s H E gd hr tk hp =>
    have hu : (A.deeper (envOfC "_law_is_whole" (defScope (top 48)) s.heap.objs.size T.d__law_is_whole.f cdv)).units + 65 < cLine := by have := hr.un; omega
    have hu1 := Nat.lt_of_le_of_lt (Nat.add_le_add_left (show 1 ≤ 65 by decide) _) hu
    (s_one (s_ret (e_and (e_isi rfl T.z_isinstance (e_var 0 (pv 0)) rfl T.z_int (by decide +kernel)) (e_one (e_not (e_isi rfl T.z_isinstance (e_var 0 (pv 0)) rfl T.z_bool (by decide +kernel)))))))
theorem sc__law_kinds : FnScope ["deck", "places", "ties", "name", "ends", "k"] ["deck"] (defScope (top 49)) := ⟨rfl, rfl, rfl, by decide +kernel, rfl, by decide +kernel, by decide +kernel⟩
def F__law_kinds : FS := sSeq (sSet (.nm 1) (eMap .lst (eSlF (eCall 2 G__law_mixed (eCons (eVar 0) (eCons (eMap .lst (eLst (eCons (eOk (.str "item")) (eCons (eOk (.str "box")) (eCons (eOk (.str "c3")) (eNil)))))) (eNil)))) (oNo) (oInt (eOp gAdd (eOk (.int 1)) (eCall 2 G__law_draw (eCons (eVar 0) (eCons (eOk (.int 3)) (eNil)))))))))
    (sSeq (sOwn 2 (eLst (eNil)))
    (sSeq (sFor (eSlF (eCall 2 G__law_mixed (eCons (eVar 0) (eCons (eMap .lst (eLst (eCons (eOk (.str "at")) (eCons (eOk (.str "next")) (eCons (eOk (.str "heat")) (eCons (eOk (.str "t2")) (eNil))))))) (eNil)))) (oNo) (oInt (eOp gAdd (eOk (.int 1)) (eCall 2 G__law_draw (eCons (eVar 0) (eCons (eOk (.int 4)) (eNil))))))) (.nm 3) (sSeq (sSet (.nm 4) (eMap .tup (eComp [5] (eBind (eCons (eCall 2 G__law_pick (eCons (eVar 0) (eCons (eMap .lst (eLst (eCons (eOk (.int 1)) (eCons (eOk (.int 2)) (eCons (eOk (.int 2)) (eCons (eOk (.int 2)) (eCons (eOk (.int 3)) (eNil)))))))) (eNil)))) (eNil)) fun ds => optL (fRange1 ds)) (.nm 5) (eOk true) (eCall 2 G__law_pick (eCons (eVar 0) (eCons (eVar 1) (eNil)))))))
    (sDrop (eOwnM 2 oAppend (eCons (eTup (eCons (eVar 3) (eCons (eVar 4) (eCons (eOp gAdd (eOk (.int 1)) (eCall 2 G__law_draw (eCons (eVar 0) (eCons (eOk (.int 3)) (eNil))))) (eNil))))) (eNil))))))
    (sRet (eTup (eCons (eMap .tup (eSeq (eVar 1))) (eCons (eMap .tup (eOwn 2)) (eNil)))))))
def G__law_kinds : Fn := bodyG 6 F__law_kinds
theorem ok__law_kinds (T : Pg P K mg) : FnG P w K mg base 3 T.d__law_kinds.f T.d__law_kinds.fd ["deck"] (spG ⟨K, mg, J, stab⟩ 1 G__law_kinds) :=
  fnClr T.d__law_kinds.fn sc__law_kinds fun cdv A outer s H E gd hr tk hp =>
    have hu : (A.deeper (envOfC "_law_kinds" (defScope (top 49)) s.heap.objs.size T.d__law_kinds.f cdv)).units + 65 < cLine := by have := hr.un; omega
    have hu1 := Nat.lt_of_le_of_lt (Nat.add_le_add_left (show 1 ≤ 65 by decide) _) hu
    (s_cons (s_asg (e_frz (f_sliceF (e_do gd tk ((ok__law_mixed T).up (by decide)) hr rfl T.d__law_mixed.hm T.d__law_mixed.fn.kp T.d__law_mixed.bd (a_cons (e_var 0 (pv 0)) (a_cons (e_frz (f_lst (a_cons e_str (a_cons e_str (a_cons e_str a_nil))))) a_nil))) o_no (o_int (e_add e_int (e_do gd tk ((ok__law_draw T).up (by decide)) hr rfl T.d__law_draw.hm T.d__law_draw.fn.kp T.d__law_draw.bd (a_cons (e_var 0 (pv 0)) (a_cons e_int a_nil))))))) (g_name (pg_name (i := 1) sc__law_kinds.nd rfl (by first | exact .inl rfl | exact .inr rfl))))
    (s_cons (s_own (i := 2) sc__law_kinds.nd rfl (by first | exact .inl rfl | exact .inr rfl) (f_lst a_nil))
    (s_cons (s_for hp rfl (i_f (f_sliceF (e_do gd tk ((ok__law_mixed T).up (by decide)) hr rfl T.d__law_mixed.hm T.d__law_mixed.fn.kp T.d__law_mixed.bd (a_cons (e_var 0 (pv 0)) (a_cons (e_frz (f_lst (a_cons e_str (a_cons e_str (a_cons e_str (a_cons e_str a_nil)))))) a_nil))) o_no (o_int (e_add e_int (e_do gd tk ((ok__law_draw T).up (by decide)) hr rfl T.d__law_draw.hm T.d__law_draw.fn.kp T.d__law_draw.bd (a_cons (e_var 0 (pv 0)) (a_cons e_int a_nil))))))) (g_name (pg_name (i := 3) sc__law_kinds.nd rfl (by first | exact .inl rfl | exact .inr rfl))) (s_cons (s_asg (e_tuple rfl T.z_tuple (sq_f (f_comp (own := [("k", 5)]) rfl sc__law_kinds.nd (i_range1 rfl T.z_range (a_cons (e_do gd tk ((ok__law_pick T).up (by decide)) hr rfl T.d__law_pick.hm T.d__law_pick.fn.kp T.d__law_pick.bd (a_cons (e_var 0 (pv 0)) (a_cons (e_frz (f_lst (a_cons e_int (a_cons e_int (a_cons e_int (a_cons e_int (a_cons e_int a_nil))))))) a_nil))) a_nil)) (blkOk_by (N := ["deck", "places", "ties", "name", "ends", "k"]) (sc := defScope (top 49)) (by decide +kernel)) (fun _ _ _ _ _ => (g_name (pg_name (i := 5) sc__law_kinds.nd rfl (by first | exact .inl rfl | exact .inr rfl)))) (fun _ _ _ _ _ => c_yes) (fun _ _ _ _ _ => (e_do gd L2.takes0 ((ok__law_pick T).up (by decide)) hr rfl T.d__law_pick.hm T.d__law_pick.fn.kp T.d__law_pick.bd (a_cons (e_var 0 (pv 0)) (a_cons (e_var 1 (pv 1)) a_nil)))) (by decide)))) (g_name (pg_name (i := 4) sc__law_kinds.nd rfl (by first | exact .inl rfl | exact .inr rfl))))
    (s_one (s_expr (e_ownM md_append PySem.F.slot_list_append PySem.F.type_list_append mt_append (pv 2) (a_cons (e_tup (a_cons (e_var 3 (pv 3)) (a_cons (e_var 4 (pv 4)) (a_cons (e_add e_int (e_do gd tk ((ok__law_draw T).up (by decide)) hr rfl T.d__law_draw.hm T.d__law_draw.fn.kp T.d__law_draw.bd (a_cons (e_var 0 (pv 0)) (a_cons e_int a_nil)))) a_nil)))) a_nil))))))
    (s_one (s_ret (e_tup (a_cons (e_tuple rfl T.z_tuple (sq_e (e_var 1 (pv 1)))) (a_cons (e_tuple rfl T.z_tuple (sq_own 2 (pv 2))) a_nil))))))))
theorem sc__law_pattern : FnScope ["deck", "kinds", "many", "most", "places", "ties", "k", "turn", "kind", "ends", "size", "spots", "end", "some"] ["deck", "kinds", "many", "most"] (defScope (top 50)) := ⟨rfl, rfl, rfl, by decide +kernel, rfl, by decide +kernel, by decide +kernel⟩
def F__law_pattern : FS := sSeq (sPar [4, 5] (mVal (eMap .tup (eComp [6] (eBind (eCons (eVar 2) (eNil)) fun ds => optL (fRange1 ds)) (.nm 6) (eOk true) (eCall 2 G__law_pick (eCons (eVar 0) (eCons (eOp gIx (eVar 1) (eOk (.int 0))) (eNil)))))) (mNew (eLst (eNil)) (mNil))))
    (sSeq (sFor (eBind (eCons (eIf (eB (eOp gNe (eOp gIx (eVar 1) (eOk (.int 1))) (eTup (eNil)))) (eCall 2 G__law_draw (eCons (eVar 0) (eCons (eOp gAdd (eVar 3) (eOk (.int 1))) (eNil)))) (eOk (.int 0))) (eNil)) fun ds => optL (fRange1 ds)) (.nm 7) (sSeq (sSet (.tp [.nm 8, .nm 9, .nm 10]) (eCall 2 G__law_pick (eCons (eVar 0) (eCons (eOp gIx (eVar 1) (eOk (.int 1))) (eNil)))))
    (sSeq (sSet (.nm 11) (eMap .lst (eComp [12] (eIter (eVar 9)) (.nm 12) (eOk true) (eMap .lst (eComp [6] (eBind (eCons (eVar 2) (eNil)) fun ds => optL (fRange1 ds)) (.nm 6) (eB (eOp gEq (eOp gIx (eVar 4) (eVar 6)) (eVar 12))) (eVar 6))))))
    (sIf (eB (eIsNil false (eComp [13] (eIter (eVar 11)) (.nm 13) (eB (eIsNil false (eLstV (eVar 13)))) (eOk (.int 1))))) (sDrop (eOwnM 5 oAppend (eCons (eTup (eCons (eVar 8) (eCons (eCall 2 G__law_draw (eCons (eVar 0) (eCons (eVar 10) (eNil)))) (eCons (eMap .tup (eComp [13] (eIter (eVar 11)) (.nm 13) (eOk true) (eCall 2 G__law_pick (eCons (eVar 0) (eCons (eVar 13) (eNil)))))) (eNil))))) (eNil)))) (sNx)))))
    (sRet (eTup (eCons (eVar 4) (eCons (eMap .tup (eSorted (eOwn 5))) (eNil))))))
def G__law_pattern : Fn := bodyG 14 F__law_pattern
theorem ok__law_pattern (T : Pg P K mg) : FnG P w K mg base 3 T.d__law_pattern.f T.d__law_pattern.fd ["deck", "kinds", "many", "most"] (spG ⟨K, mg, J, stab⟩ 4 G__law_pattern) :=
  fnClr T.d__law_pattern.fn sc__law_pattern fun cdv A outer s H E gd hr tk hp =>
    have hu : (A.deeper (envOfC "_law_pattern" (defScope (top 50)) s.heap.objs.size T.d__law_pattern.f cdv)).units + 65 < cLine := by have := hr.un; omega
    have hu1 := Nat.lt_of_le_of_lt (Nat.add_le_add_left (show 1 ≤ 65 by decide) _) hu
    (s_cons (s_parC rfl (j_cons (pg_name (i := 4) sc__law_pattern.nd rfl (by first | exact .inl rfl | exact .inr rfl)) (j_cons (pg_name (i := 5) sc__law_pattern.nd rfl (by first | exact .inl rfl | exact .inr rfl)) j_nil)) (m_val (e_tuple rfl T.z_tuple (sq_f (f_comp (own := [("k", 6)]) rfl sc__law_pattern.nd (i_range1 rfl T.z_range (a_cons (e_var 2 (pv 2)) a_nil)) (blkOk_by (N := ["deck", "kinds", "many", "most", "places", "ties", "k", "turn", "kind", "ends", "size", "spots", "end", "some"]) (sc := defScope (top 50)) (by decide +kernel)) (fun _ _ _ _ _ => (g_name (pg_name (i := 6) sc__law_pattern.nd rfl (by first | exact .inl rfl | exact .inr rfl)))) (fun _ _ _ _ _ => c_yes) (fun _ _ _ _ _ => (e_do gd L2.takes0 ((ok__law_pick T).up (by decide)) hr rfl T.d__law_pick.hm T.d__law_pick.fn.kp T.d__law_pick.bd (a_cons (e_var 0 (pv 0)) (a_cons (e_ix (e_var 1 (pv 1)) e_int) a_nil)))) (by decide)))) (m_new (f_lst a_nil) m_nil)))
    (s_cons (s_for hp rfl (i_range1 rfl T.z_range (a_cons (e_ifExp (b_ne hu (e_ix (e_var 1 (pv 1)) e_int) (e_tup a_nil)) (e_do gd tk ((ok__law_draw T).up (by decide)) hr rfl T.d__law_draw.hm T.d__law_draw.fn.kp T.d__law_draw.bd (a_cons (e_var 0 (pv 0)) (a_cons (e_add (e_var 3 (pv 3)) e_int) a_nil))) e_int) a_nil)) (g_name (pg_name (i := 7) sc__law_pattern.nd rfl (by first | exact .inl rfl | exact .inr rfl))) (s_cons (s_asg (e_do gd tk ((ok__law_pick T).up (by decide)) hr rfl T.d__law_pick.hm T.d__law_pick.fn.kp T.d__law_pick.bd (a_cons (e_var 0 (pv 0)) (a_cons (e_ix (e_var 1 (pv 1)) e_int) a_nil))) (g_tup rfl (gs_cons (g_name (pg_name (i := 8) sc__law_pattern.nd rfl (by first | exact .inl rfl | exact .inr rfl))) (gs_cons (g_name (pg_name (i := 9) sc__law_pattern.nd rfl (by first | exact .inl rfl | exact .inr rfl))) (gs_cons (g_name (pg_name (i := 10) sc__law_pattern.nd rfl (by first | exact .inl rfl | exact .inr rfl))) gs_nil)))))
    (s_cons (s_frzLc (i := 11) (own := [("end", 12)]) rfl sc__law_pattern.nd rfl rfl rfl (i_e (e_var 9 (pv 9))) (blkOk_by (N := ["deck", "kinds", "many", "most", "places", "ties", "k", "turn", "kind", "ends", "size", "spots", "end", "some"]) (sc := defScope (top 50)) (by decide +kernel)) (fun _ _ _ _ _ => (g_name (pg_name (i := 12) sc__law_pattern.nd rfl (by first | exact .inl rfl | exact .inr rfl)))) (fun _ _ _ _ _ => c_yes) (fun _ _ _ _ _ => (e_frz (f_comp (own := [("k", 6)]) rfl sc__law_pattern.nd (i_range1 rfl T.z_range (a_cons (e_var 2 (pv 2)) a_nil)) (blkOk_by (by rfl)) (fun _ _ _ _ _ => (g_name (pg_name (i := 6) sc__law_pattern.nd rfl (by first | exact .inl rfl | exact .inr rfl)))) (fun _ _ _ _ _ => (c_if (b_eq hu (e_ix (e_var 4 (pv 4)) (e_var 6 (pv 6))) (e_var 12 (pv 12))))) (fun _ _ _ _ _ => (e_var 6 (pv 6))) (by decide)))) (by decide))
    (s_one (s_if (b_nilEq hu (l_f (f_comp (own := [("some", 13)]) rfl sc__law_pattern.nd (i_e (e_var 11 (pv 11))) (blkOk_by (N := ["deck", "kinds", "many", "most", "places", "ties", "k", "turn", "kind", "ends", "size", "spots", "end", "some"]) (sc := defScope (top 50)) (by decide +kernel)) (fun _ _ _ _ _ => (g_name (pg_name (i := 13) sc__law_pattern.nd rfl (by first | exact .inl rfl | exact .inr rfl)))) (fun _ _ _ _ _ => (c_if (b_nilEq hu (l_e (e_var 13 (pv 13)))))) (fun _ _ _ _ _ => e_int) (by decide)))) (s_one (s_expr (e_ownM md_append PySem.F.slot_list_append PySem.F.type_list_append mt_append (pv 5) (a_cons (e_tup (a_cons (e_var 8 (pv 8)) (a_cons (e_do gd tk ((ok__law_draw T).up (by decide)) hr rfl T.d__law_draw.hm T.d__law_draw.fn.kp T.d__law_draw.bd (a_cons (e_var 0 (pv 0)) (a_cons (e_var 10 (pv 10)) a_nil))) (a_cons (e_tuple rfl T.z_tuple (sq_f (f_comp (own := [("some", 13)]) rfl sc__law_pattern.nd (i_e (e_var 11 (pv 11))) (blkOk_by (N := ["deck", "kinds", "many", "most", "places", "ties", "k", "turn", "kind", "ends", "size", "spots", "end", "some"]) (sc := defScope (top 50)) (by decide +kernel)) (fun _ _ _ _ _ => (g_name (pg_name (i := 13) sc__law_pattern.nd rfl (by first | exact .inl rfl | exact .inr rfl)))) (fun _ _ _ _ _ => c_yes) (fun _ _ _ _ _ => (e_do gd L2.takes0 ((ok__law_pick T).up (by decide)) hr rfl T.d__law_pick.hm T.d__law_pick.fn.kp T.d__law_pick.bd (a_cons (e_var 0 (pv 0)) (a_cons (e_var 13 (pv 13)) a_nil)))) (by decide)))) a_nil)))) a_nil)))) s_nil)))))
    (s_one (s_ret (e_tup (a_cons (e_var 4 (pv 4)) (a_cons (e_tuple rfl T.z_tuple (sq_f (f_sorted hu rfl T.z_sorted (l_own 5 (pv 5))))) a_nil)))))))
theorem sc__law_maps : FnScope ["one", "other", "rows", "kind", "longer", "row", "spots", "k", "own"] ["one", "other"] (defScope (top 51)) := ⟨rfl, rfl, rfl, by decide +kernel, rfl, by decide +kernel, by decide +kernel⟩
def F__law_maps : FS := sSeq (sSet (.nm 2) (eMap .lst (eLst (eCons (eTup (eNil)) (eNil)))))
    (sSeq (sFor (eIter (eOp gIx (eVar 1) (eOk (.int 0)))) (.nm 3) (sSeq (sOwn 4 (eLst (eNil)))
    (sSeq (sFor (eIter (eVar 2)) (.nm 5) (sSeq (sSet (.nm 6) (eMap .lst (eComp [7, 8] (eBind (eCons (eOp gIx (eVar 0) (eOk (.int 0))) (eNil)) enumOf) (.tp [.nm 7, .nm 8]) (bAnd (eB (eOp gEq (eVar 8) (eVar 3))) (eB (eOp gNin (eVar 7) (eVar 5)))) (eVar 7))))
    (sDrop (eOwnX 4 (eComp [7] (eCat (eLst (eCons (eUn gNeg (eOk (.int 1))) (eNil))) (eLstV (eVar 6))) (.nm 7) (eOk true) (eOp gAdd (eVar 5) (eTup (eCons (eVar 7) (eNil)))))))))
    (sSet (.nm 2) (eGive 4)))))
    (sRet (eMap .tup (eSorted (eLstV (eVar 2))))))
def G__law_maps : Fn := bodyG 9 F__law_maps
theorem ok__law_maps (T : Pg P K mg) : FnG P w K mg base 1 T.d__law_maps.f T.d__law_maps.fd ["one", "other"] (spG ⟨K, mg, J, stab⟩ 2 G__law_maps) :=
  fnClr T.d__law_maps.fn sc__law_maps fun cdv A outer s H E gd hr tk hp =>
    have hu : (A.deeper (envOfC "_law_maps" (defScope (top 51)) s.heap.objs.size T.d__law_maps.f cdv)).units + 65 < cLine := by have := hr.un; omega
    have hu1 := Nat.lt_of_le_of_lt (Nat.add_le_add_left (show 1 ≤ 65 by decide) _) hu
    (s_cons (s_asg (e_frz (f_lst (a_cons (e_tup a_nil) a_nil))) (g_name (pg_name (i := 2) sc__law_maps.nd rfl (by first | exact .inl rfl | exact .inr rfl))))
    (s_cons (s_for hp rfl (i_e (e_ix (e_var 1 (pv 1)) e_int)) (g_name (pg_name (i := 3) sc__law_maps.nd rfl (by first | exact .inl rfl | exact .inr rfl))) (s_cons (s_own (i := 4) sc__law_maps.nd rfl (by first | exact .inl rfl | exact .inr rfl) (f_lst a_nil))
    (s_cons (s_for hp rfl (i_e (e_var 2 (pv 2))) (g_name (pg_name (i := 5) sc__law_maps.nd rfl (by first | exact .inl rfl | exact .inr rfl))) (s_cons (s_frzLc (i := 6) (own := [("k", 7), ("own", 8)]) rfl sc__law_maps.nd rfl rfl rfl (i_enum rfl T.z_enumerate (a_cons (e_ix (e_var 0 (pv 0)) e_int) a_nil)) (blkOk_by (N := ["one", "other", "rows", "kind", "longer", "row", "spots", "k", "own"]) (sc := defScope (top 51)) (by decide +kernel)) (fun _ _ _ _ _ => (g_tup rfl (gs_cons (g_name (pg_name (i := 7) sc__law_maps.nd rfl (by first | exact .inl rfl | exact .inr rfl))) (gs_cons (g_name (pg_name (i := 8) sc__law_maps.nd rfl (by first | exact .inl rfl | exact .inr rfl))) gs_nil)))) (fun _ _ _ _ _ => (c_if (b_w (w_and (b_eq hu (e_var 8 (pv 8)) (e_var 3 (pv 3))) (w_and1 (b_nin hu (e_var 7 (pv 7)) (e_var 5 (pv 5)) (by rfl))))))) (fun _ _ _ _ _ => (e_var 7 (pv 7))) (by decide))
    (s_one (s_expr (e_ownX (pv 4) (f_comp (own := [("k", 7)]) rfl sc__law_maps.nd (i_f (f_cat (ls_f (f_lst (a_cons (e_neg e_int) a_nil))) (l_e (e_var 6 (pv 6))))) (blkOk_by (N := ["one", "other", "rows", "kind", "longer", "row", "spots", "k", "own"]) (sc := defScope (top 51)) (by decide +kernel)) (fun _ _ _ _ _ => (g_name (pg_name (i := 7) sc__law_maps.nd rfl (by first | exact .inl rfl | exact .inr rfl)))) (fun _ _ _ _ _ => c_yes) (fun _ _ _ _ _ => (e_add (e_var 5 (pv 5)) (e_tup (a_cons (e_var 7 (pv 7)) a_nil)))) (by decide)))))))
    (s_one (s_asg (e_give 4 (pv 4)) (g_name (pg_name (i := 2) sc__law_maps.nd rfl (by first | exact .inl rfl | exact .inr rfl))))))))
    (s_one (s_ret (e_tuple rfl T.z_tuple (sq_f (f_sorted hu rfl T.z_sorted (l_e (e_var 2 (pv 2))))))))))
theorem sc__law_image : FnScope ["one", "other", "onto", "found", "at", "k"] ["one", "other", "onto"] (defScope (top 52)) := ⟨rfl, rfl, rfl, by decide +kernel, rfl, by decide +kernel, by decide +kernel⟩
def F__law_image : FS := sSeq (sPar [3, 4] (mNew (eLst (eNil)) (mVal (eBind (eCons (eOp gIx (eVar 0) (eOk (.int 0))) (eNil)) fun ds => optE (fLenV ds)) (mNil))))
    (sSeq (sFor (eIter (eVar 2)) (.nm 5) (sSeq (sDrop (eOwnM 3 oAppend (eCons (eIf (eB (eOp gLt (eVar 5) (eOk (.int 0)))) (eVar 4) (eVar 5)) (eNil))))
    (sSet (.nm 4) (eOp gAdd (eVar 4) (eBind (eCons (eOp gLt (eVar 5) (eOk (.int 0))) (eNil)) fun ds => optE (fInt ds))))))
    (sRet (eMap .tup (eOwn 3))))
def G__law_image : Fn := bodyG 6 F__law_image
theorem ok__law_image (T : Pg P K mg) : FnG P w K mg base 1 T.d__law_image.f T.d__law_image.fd ["one", "other", "onto"] (spG ⟨K, mg, J, stab⟩ 3 G__law_image) :=
  fnClr T.d__law_image.fn sc__law_image fun cdv A outer s H E gd hr tk hp =>
    have hu : (A.deeper (envOfC "_law_image" (defScope (top 52)) s.heap.objs.size T.d__law_image.f cdv)).units + 65 < cLine := by have := hr.un; omega
    have hu1 := Nat.lt_of_le_of_lt (Nat.add_le_add_left (show 1 ≤ 65 by decide) _) hu
    (s_cons (s_par2 (i := 3) (j := 4) rfl sc__law_image.nd rfl rfl rfl rfl (m_new (f_lst a_nil) (m_val (e_len rfl T.z_len (a_cons (e_ix (e_var 0 (pv 0)) e_int) a_nil)) m_nil)))
    (s_cons (s_for hp rfl (i_e (e_var 2 (pv 2))) (g_name (pg_name (i := 5) sc__law_image.nd rfl (by first | exact .inl rfl | exact .inr rfl))) (s_cons (s_expr (e_ownM md_append PySem.F.slot_list_append PySem.F.type_list_append mt_append (pv 3) (a_cons (e_ifExp (b_cmp op_lt od_lt (e_var 5 (pv 5)) e_int (nomark _)) (e_var 4 (pv 4)) (e_var 5 (pv 5))) a_nil)))
    (s_one (s_asg (e_add (e_var 4 (pv 4)) (e_int1 rfl T.z_int (a_cons (e_cmp op_lt od_lt (e_var 5 (pv 5)) e_int (nomark _)) a_nil))) (g_name (pg_name (i := 4) sc__law_image.nd rfl (by first | exact .inl rfl | exact .inr rfl)))))))
    (s_one (s_ret (e_tuple rfl T.z_tuple (sq_own 3 (pv 3)))))))
theorem sc__law_heard : FnScope ["call", "e"] ["call"] (defScope (top 53)) := ⟨rfl, rfl, rfl, by decide +kernel, rfl, by decide +kernel, by decide +kernel⟩
def cs__law_heard : List CD := [.nm m_BadKinds 1 (iTup (iCons (iC (.str "kinds")) (iCons (iThing) (iCons (iIs k_WebError) (iNil))))), .nm m_BadPattern 1 (iTup (iCons (iC (.str "pattern")) (iCons (iThing) (iCons (iIs k_WebError) (iNil))))), .nm m_BadFit 1 (iTup (iCons (iC (.str "fit")) (iCons (iThing) (iCons (iIs k_WebError) (iNil)))))]
theorem do__law_heard {X : Cx} {W : WX} {Tt : List (Addr × Str)} {c Pt : Addr} {k : Nat} {params : Arguments} {body : Expr} {scope : Scope} {B : E D} {p lpos pos : Pos} (T : Pg X.prog X.K X.mg) (hg : Gl X "_law_heard")
    (TB : TabB X.base X.mg c Pt) (hcode : X.env.code = .ref c) (hmT : (Pt, X.env.qual ++ "<lambda>") ∈ Tt) (hu : ∀ p ∈ Tt, p.1 = Pt → p.2 = X.env.qual ++ "<lambda>") (hr : Room (k + 2) X.A) (L : LamS X.env.scope scope)
    (hbody : ∀ (A : Around) (outer : List Env) (s : Shared) (H : Hp) (E : XK) (f c' : Addr), A.guards = X.A.guards → Room k (A.deeper (lamEnv X scope s.heap.objs.size f c')) → PE (lamCx X A outer s H E scope f c') body (tE ⟨X.K, X.mg, Tabs Tt, tabs_stab⟩ (fun cls d _ H => E cls d H) B))
    (hdef : defaultsOf params X.env = ([], []) := by rfl) (hbind : ∀ (q : Str) (cl : List (Str × Addr)) (pm cv ctv : Value), bindArgs (PySem.W.kla_fn "<lambda>" q params body scope cl pm cv ctv) ⟨[], []⟩ = pure [] := by intro _ _ _ _ _; rfl) :
    PE X (.Call (.Name "_law_heard" p) [.Lambda params body scope lpos] [] pos) (tE ⟨X.K, X.mg, Tabs Tt, tabs_stab⟩ W (eHeard kn0 "told" cs__law_heard 2 B)) :=
  e_heardD T.d__law_heard rfl hg sc__law_heard rfl (Or.inl rfl) (xs_all T) (fun cdv A outer s H => (.nm ⟨rfl, by decide, .inl T.x_BadKinds.hm⟩ rfl rfl (hm_BadKinds T) (fun a o cls d pn hz hf => x_tup (i_cons i_str (i_cons (i_thing hz hf (pv 1) (xs_all T)) (i_cons (i_is hz hf rfl T.z_isinstance (pv 1) rfl T.x_WebError.hm (hk_WebError T)) i_nil)))) (.nm ⟨rfl, by decide, .inl T.x_BadPattern.hm⟩ rfl rfl (hm_BadPattern T) (fun a o cls d pn hz hf => x_tup (i_cons i_str (i_cons (i_thing hz hf (pv 1) (xs_all T)) (i_cons (i_is hz hf rfl T.z_isinstance (pv 1) rfl T.x_WebError.hm (hk_WebError T)) i_nil)))) (.nm ⟨rfl, by decide, .inl T.x_BadFit.hm⟩ rfl rfl (hm_BadFit T) (fun a o cls d pn hz hf => x_tup (i_cons i_str (i_cons (i_thing hz hf (pv 1) (xs_all T)) (i_cons (i_is hz hf rfl T.z_isinstance (pv 1) rfl T.x_WebError.hm (hk_WebError T)) i_nil)))) .nil)))) TB hcode hmT hu hr L (fun _ h => h) (fun _ _ _ _ h => h) hbody hdef hbind
theorem sc__law_many : FnScope ["one", "other", "found", "kind", "a", "b", "it", "ways", "total", "k"] ["one", "other"] (defScope (top 54)) := ⟨rfl, rfl, rfl, by decide +kernel, rfl, by decide +kernel, by decide +kernel⟩
def F__law_many : FS := sSeq (sSet (.nm 2) (eOk (.int 1)))
    (sSeq (sFor (eSortSet (eOp gAdd (eOp gIx (eVar 0) (eOk (.int 0))) (eOp gIx (eVar 1) (eOk (.int 0))))) (.nm 3) (sSeq (sPar [4, 5] (mVal (eBind (eComp [6] (eIter (eOp gIx (eVar 0) (eOk (.int 0)))) (.nm 6) (eB (eOp gEq (eVar 6) (eVar 3))) (eVar 6)) fun ds => optE (fLen ds)) (mVal (eBind (eComp [6] (eIter (eOp gIx (eVar 1) (eOk (.int 0)))) (.nm 6) (eB (eOp gEq (eVar 6) (eVar 3))) (eVar 6)) fun ds => optE (fLen ds)) (mNil))))
    (sSeq (sPar [7, 8] (mVal (eOk (.int 1)) (mVal (eOk (.int 1)) (mNil))))
    (sSeq (sFor (eBind (eCons (eBind (eCons (eVar 4) (eCons (eVar 5) (eNil))) fun ds => optE (fMin2 ds)) (eNil)) fun ds => optL (fRange1 ds)) (.nm 9) (sSeq (sSet (.nm 7) (eOp gFdiv (eOp gMulI (eOp gMulI (eVar 7) (eOp gSubI (eVar 4) (eVar 9))) (eOp gSubI (eVar 5) (eVar 9))) (eOp gAdd (eVar 9) (eOk (.int 1)))))
    (sSet (.nm 8) (eOp gAdd (eVar 8) (eVar 7)))))
    (sSet (.nm 2) (eOp gMulI (eVar 2) (eVar 8)))))))
    (sRet (eVar 2)))
def G__law_many : Fn := bodyG 10 F__law_many
theorem ok__law_many (T : Pg P K mg) : FnG P w K mg base 1 T.d__law_many.f T.d__law_many.fd ["one", "other"] (spG ⟨K, mg, J, stab⟩ 2 G__law_many) :=
  fnClr T.d__law_many.fn sc__law_many fun cdv A outer s H E gd hr tk hp =>
    have hu : (A.deeper (envOfC "_law_many" (defScope (top 54)) s.heap.objs.size T.d__law_many.f cdv)).units + 65 < cLine := by have := hr.un; omega
    have hu1 := Nat.lt_of_le_of_lt (Nat.add_le_add_left (show 1 ≤ 65 by decide) _) hu
    (s_cons (s_asg e_int (g_name (pg_name (i := 2) sc__law_many.nd rfl (by first | exact .inl rfl | exact .inr rfl))))
    (s_cons (s_for hp rfl (i_f (f_sortSet rfl hu rfl T.z_sorted rfl T.z_set (e_add (e_ix (e_var 0 (pv 0)) e_int) (e_ix (e_var 1 (pv 1)) e_int)))) (g_name (pg_name (i := 3) sc__law_many.nd rfl (by first | exact .inl rfl | exact .inr rfl))) (s_cons (s_par2 (i := 4) (j := 5) rfl sc__law_many.nd rfl rfl rfl rfl (m_val (e_lenS rfl T.z_len (sq_f (f_comp (own := [("it", 6)]) rfl sc__law_many.nd (i_e (e_ix (e_var 0 (pv 0)) e_int)) (blkOk_by (N := ["one", "other", "found", "kind", "a", "b", "it", "ways", "total", "k"]) (sc := defScope (top 54)) (by decide +kernel)) (fun _ _ _ _ _ => (g_name (pg_name (i := 6) sc__law_many.nd rfl (by first | exact .inl rfl | exact .inr rfl)))) (fun _ _ _ _ _ => (c_if (b_eq hu (e_var 6 (pv 6)) (e_var 3 (pv 3))))) (fun _ _ _ _ _ => (e_var 6 (pv 6))) (by decide)))) (m_val (e_lenS rfl T.z_len (sq_f (f_comp (own := [("it", 6)]) rfl sc__law_many.nd (i_e (e_ix (e_var 1 (pv 1)) e_int)) (blkOk_by (N := ["one", "other", "found", "kind", "a", "b", "it", "ways", "total", "k"]) (sc := defScope (top 54)) (by decide +kernel)) (fun _ _ _ _ _ => (g_name (pg_name (i := 6) sc__law_many.nd rfl (by first | exact .inl rfl | exact .inr rfl)))) (fun _ _ _ _ _ => (c_if (b_eq hu (e_var 6 (pv 6)) (e_var 3 (pv 3))))) (fun _ _ _ _ _ => (e_var 6 (pv 6))) (by decide)))) m_nil)))
    (s_cons (s_parC rfl (j_cons (pg_name (i := 7) sc__law_many.nd rfl (by first | exact .inl rfl | exact .inr rfl)) (j_cons (pg_name (i := 8) sc__law_many.nd rfl (by first | exact .inl rfl | exact .inr rfl)) j_nil)) (m_val e_int (m_val e_int m_nil)))
    (s_cons (s_for hp rfl (i_range1 rfl T.z_range (a_cons (e_min2 rfl rfl T.z_min (a_cons (e_var 4 (pv 4)) (a_cons (e_var 5 (pv 5)) a_nil))) a_nil)) (g_name (pg_name (i := 9) sc__law_many.nd rfl (by first | exact .inl rfl | exact .inr rfl))) (s_cons (s_asg (e_fdiv (e_mul (e_mul (e_var 7 (pv 7)) (e_sub (e_var 4 (pv 4)) (e_var 9 (pv 9)))) (e_sub (e_var 5 (pv 5)) (e_var 9 (pv 9)))) (e_add (e_var 9 (pv 9)) e_int)) (g_name (pg_name (i := 7) sc__law_many.nd rfl (by first | exact .inl rfl | exact .inr rfl))))
    (s_one (s_asg (e_add (e_var 8 (pv 8)) (e_var 7 (pv 7))) (g_name (pg_name (i := 8) sc__law_many.nd rfl (by first | exact .inl rfl | exact .inr rfl)))))))
    (s_one (s_asg (e_mul (e_var 2 (pv 2)) (e_var 8 (pv 8))) (g_name (pg_name (i := 2) sc__law_many.nd rfl (by first | exact .inl rfl | exact .inr rfl)))))))))
    (s_one (s_ret (e_var 2 (pv 2))))))
theorem sc__law_is_map : FnScope ["due", "thing", "k"] ["due", "thing"] (defScope (top 56)) := ⟨rfl, rfl, rfl, by decide +kernel, rfl, by decide +kernel, by decide +kernel⟩
def F__law_is_map : FS := sSeq (sIf (bOr (bNot (eT (eIsi "tuple" (eVar 1)))) (eB (eIsNil true (eComp [2] (eIter (eVar 1)) (.nm 2) (bNot (eT (eCall 1 G__law_is_whole (eCons (eVar 2) (eNil))))) (eOk (.int 1)))))) (sRet (eOk (.bl false))) (sNx))
    (sRet (eOp gIn (eVar 1) (eVar 0)))
def G__law_is_map : Fn := bodyG 3 F__law_is_map
theorem ok__law_is_map (T : Pg P K mg) : FnG P w K mg base 2 T.d__law_is_map.f T.d__law_is_map.fd ["due", "thing"] (spG ⟨K, mg, J, stab⟩ 2 G__law_is_map) :=
  fnClr T.d__law_is_map.fn sc__law_is_map fun cdv A outer s H E gd hr tk hp =>
    have hu : (A.deeper (envOfC "_law_is_map" (defScope (top 56)) s.heap.objs.size T.d__law_is_map.f cdv)).units + 65 < cLine := by have := hr.un; omega
    have hu1 := Nat.lt_of_le_of_lt (Nat.add_le_add_left (show 1 ≤ 65 by decide) _) hu
    (s_cons (s_if (b_w (w_or (b_not (b_val (e_isi rfl T.z_isinstance (e_var 1 (pv 1)) rfl T.z_tuple (by decide +kernel)))) (w_or1 (b_nilNe hu (l_f (f_comp (own := [("k", 2)]) rfl sc__law_is_map.nd (i_e (e_var 1 (pv 1))) (blkOk_by (N := ["due", "thing", "k"]) (sc := defScope (top 56)) (by decide +kernel)) (fun _ _ _ _ _ => (g_name (pg_name (i := 2) sc__law_is_map.nd rfl (by first | exact .inl rfl | exact .inr rfl)))) (fun _ _ _ _ _ => (c_if (b_not (b_val (e_do gd L2.takes0 ((ok__law_is_whole T).up (by decide)) hr rfl T.d__law_is_whole.hm T.d__law_is_whole.fn.kp T.d__law_is_whole.bd (a_cons (e_var 2 (pv 2)) a_nil)))))) (fun _ _ _ _ _ => e_int) (by decide))))))) (s_one (s_ret e_bl)) s_nil)
    (s_one (s_ret (e_in hu (e_var 1 (pv 1)) (e_var 0 (pv 0)) (by rfl)))))
theorem sc__law_no_map : FnScope ["deck", "one", "other", "due", "some", "row", "at", "near", "k", "kind", "found"] ["deck", "one", "other"] (defScope (top 55)) := ⟨rfl, rfl, rfl, by decide +kernel, rfl, by decide +kernel, by decide +kernel⟩
def F__law_no_map : FS := sSeq (sSet (.nm 3) (eCall 2 G__law_maps (eCons (eVar 1) (eCons (eVar 2) (eNil)))))
    (sSeq (sSet (.nm 4) (eMap .lst (eLst (eCons (eOk .non) (eCons (eOk (.int 5)) (eCons (eMap .lst (eLst (eNil))) (eCons (eOp gMulT (eTup (eCons (eUn gNeg (eOk (.int 1))) (eNil))) (eOp gAdd (eBind (eCons (eOp gIx (eVar 2) (eOk (.int 0))) (eNil)) fun ds => optE (fLenV ds)) (eOk (.int 1)))) (eCons (eOp gAdd (eOp gMulT (eTup (eCons (eUn gNeg (eOk (.int 2))) (eNil))) (eBind (eCons (eOp gIx (eVar 2) (eOk (.int 0))) (eNil)) fun ds => optE (fLenV ds))) (eTup (eCons (eOk (.int 0)) (eNil)))) (eCons (eMap .lst (eCat (eSeq (eCall 2 G__law_pick (eCons (eVar 0) (eCons (eVar 3) (eNil))))) (eLst (eCons (eOk (.int 0)) (eNil))))) (eNil))))))))))
    (sSeq (sIf (eB (eOp gNe (eOp gIx (eVar 2) (eOk (.int 0))) (eTup (eNil)))) (sSeq (sSet (.nm 5) (eCall 2 G__law_pick (eCons (eVar 0) (eCons (eVar 3) (eNil)))))
    (sSeq (sSet (.nm 6) (eCall 2 G__law_draw (eCons (eVar 0) (eCons (eBind (eCons (eVar 5) (eNil)) fun ds => optE (fLenV ds)) (eNil)))))
    (sSeq (sSet (.nm 7) (eMap .lst (eCat (eLst (eCons (eBind (eCons (eOp gIx (eVar 1) (eOk (.int 0))) (eNil)) fun ds => optE (fLenV ds)) (eCons (eUn gNeg (eOk (.int 2))) (eCons (eOk .non) (eCons (eOk (.bl true)) (eCons (eOk (.bl false)) (eCons (eOk (.str "0")) (eCons (eOp gAdd (eBind (eCons (eOp gIx (eVar 1) (eOk (.int 0))) (eNil)) fun ds => optE (fLenV ds)) (eOk (.int 3))) (eNil))))))))) (eComp [8] (eIter (eVar 5)) (.nm 8) (eB (eOp gGe (eVar 8) (eOk (.int 0)))) (eVar 8)))))
    (sSeq (sSet (.nm 7) (eMap .lst (eCat (eBind (eVar 7) frzOf) (eComp [8, 9] (eBind (eCons (eOp gIx (eVar 1) (eOk (.int 0))) (eNil)) enumOf) (.tp [.nm 8, .nm 9]) (eB (eOp gNe (eVar 9) (eOp gIx (eOp gIx (eVar 2) (eOk (.int 0))) (eVar 6)))) (eVar 8)))))
    (sSet (.nm 4) (eMap .lst (eCat (eBind (eVar 4) frzOf) (eLst (eCons (eOp gAdd (eOp gAdd (eSlT (eVar 5) (oNo) (oInt (eVar 6))) (eTup (eCons (eCall 2 G__law_pick (eCons (eVar 0) (eCons (eVar 7) (eNil)))) (eNil)))) (eSlT (eVar 5) (oInt (eOp gAdd (eVar 6) (eOk (.int 1)))) (oNo))) (eCons (eSlT (eVar 5) (oNo) (oInt (eUn gNeg (eOk (.int 1))))) (eCons (eMap .lst (eRepL (eLst (eCons (eUn gNeg (eOk (.int 1))) (eNil))) (eBind (eCons (eVar 5) (eNil)) fun ds => optE (fLenV ds)))) (eNil)))))))))))) (sNx))
    (sSeq (sSet (.nm 10) (eCall 2 G__law_pick (eCons (eVar 0) (eCons (eVar 4) (eNil)))))
    (sRet (eIf (bNot (eT (eCall 2 G__law_is_map (eCons (eVar 3) (eCons (eVar 10) (eNil)))))) (eVar 10) (eOk .non))))))
def G__law_no_map : Fn := bodyG 11 F__law_no_map
theorem ok__law_no_map (T : Pg P K mg) : FnG P w K mg base 3 T.d__law_no_map.f T.d__law_no_map.fd ["deck", "one", "other"] (spG ⟨K, mg, J, stab⟩ 3 G__law_no_map) :=
  fnClr T.d__law_no_map.fn sc__law_no_map fun cdv A outer s H E gd hr tk hp =>
    have hu : (A.deeper (envOfC "_law_no_map" (defScope (top 55)) s.heap.objs.size T.d__law_no_map.f cdv)).units + 65 < cLine := by have := hr.un; omega
    have hu1 := Nat.lt_of_le_of_lt (Nat.add_le_add_left (show 1 ≤ 65 by decide) _) hu
    (s_cons (s_asg (e_do gd tk ((ok__law_maps T).up (by decide)) hr rfl T.d__law_maps.hm T.d__law_maps.fn.kp T.d__law_maps.bd (a_cons (e_var 1 (pv 1)) (a_cons (e_var 2 (pv 2)) a_nil))) (g_name (pg_name (i := 3) sc__law_no_map.nd rfl (by first | exact .inl rfl | exact .inr rfl))))
    (s_cons (s_asg (e_frz (f_lst (a_cons e_non (a_cons e_int (a_cons (e_frz (f_lst a_nil)) (a_cons (e_mulT (e_tup (a_cons (e_neg e_int) a_nil)) (e_add (e_len rfl T.z_len (a_cons (e_ix (e_var 2 (pv 2)) e_int) a_nil)) e_int)) (a_cons (e_add (e_mulT (e_tup (a_cons (e_neg e_int) a_nil)) (e_len rfl T.z_len (a_cons (e_ix (e_var 2 (pv 2)) e_int) a_nil))) (e_tup (a_cons e_int a_nil))) (a_cons (e_frz (f_cat (ls_f (f_list rfl T.z_list (sq_e (e_do gd tk ((ok__law_pick T).up (by decide)) hr rfl T.d__law_pick.hm T.d__law_pick.fn.kp T.d__law_pick.bd (a_cons (e_var 0 (pv 0)) (a_cons (e_var 3 (pv 3)) a_nil)))))) (l_f (f_lst (a_cons e_int a_nil))))) a_nil)))))))) (g_name (pg_name (i := 4) sc__law_no_map.nd rfl (by first | exact .inl rfl | exact .inr rfl))))
    (s_cons (s_if (b_ne hu (e_ix (e_var 2 (pv 2)) e_int) (e_tup a_nil)) (s_cons (s_asg (e_do gd tk ((ok__law_pick T).up (by decide)) hr rfl T.d__law_pick.hm T.d__law_pick.fn.kp T.d__law_pick.bd (a_cons (e_var 0 (pv 0)) (a_cons (e_var 3 (pv 3)) a_nil))) (g_name (pg_name (i := 5) sc__law_no_map.nd rfl (by first | exact .inl rfl | exact .inr rfl))))
    (s_cons (s_asg (e_do gd tk ((ok__law_draw T).up (by decide)) hr rfl T.d__law_draw.hm T.d__law_draw.fn.kp T.d__law_draw.bd (a_cons (e_var 0 (pv 0)) (a_cons (e_len rfl T.z_len (a_cons (e_var 5 (pv 5)) a_nil)) a_nil))) (g_name (pg_name (i := 6) sc__law_no_map.nd rfl (by first | exact .inl rfl | exact .inr rfl))))
    (s_cons (s_asg (e_frz (f_cat (ls_f (f_lst (a_cons (e_len rfl T.z_len (a_cons (e_ix (e_var 1 (pv 1)) e_int) a_nil)) (a_cons (e_neg e_int) (a_cons e_non (a_cons e_bl (a_cons e_bl (a_cons e_str (a_cons (e_add (e_len rfl T.z_len (a_cons (e_ix (e_var 1 (pv 1)) e_int) a_nil)) e_int) a_nil))))))))) (l_f (f_comp (own := [("k", 8)]) rfl sc__law_no_map.nd (i_e (e_var 5 (pv 5))) (blkOk_by (N := ["deck", "one", "other", "due", "some", "row", "at", "near", "k", "kind", "found"]) (sc := defScope (top 55)) (by decide +kernel)) (fun _ _ _ _ _ => (g_name (pg_name (i := 8) sc__law_no_map.nd rfl (by first | exact .inl rfl | exact .inr rfl)))) (fun _ _ _ _ _ => (c_if (b_cmp op_ge od_ge (e_var 8 (pv 8)) e_int (nomark _)))) (fun _ _ _ _ _ => (e_var 8 (pv 8))) (by decide))))) (g_name (pg_name (i := 7) sc__law_no_map.nd rfl (by first | exact .inl rfl | exact .inr rfl))))
    (s_cons (s_asg (e_frz (f_cat (ls_e (e_var 7 (pv 7))) (l_f (f_comp (own := [("k", 8), ("kind", 9)]) rfl sc__law_no_map.nd (i_enum rfl T.z_enumerate (a_cons (e_ix (e_var 1 (pv 1)) e_int) a_nil)) (blkOk_by (N := ["deck", "one", "other", "due", "some", "row", "at", "near", "k", "kind", "found"]) (sc := defScope (top 55)) (by decide +kernel)) (fun _ _ _ _ _ => (g_tup rfl (gs_cons (g_name (pg_name (i := 8) sc__law_no_map.nd rfl (by first | exact .inl rfl | exact .inr rfl))) (gs_cons (g_name (pg_name (i := 9) sc__law_no_map.nd rfl (by first | exact .inl rfl | exact .inr rfl))) gs_nil)))) (fun _ _ _ _ _ => (c_if (b_ne hu (e_var 9 (pv 9)) (e_ix (e_ix (e_var 2 (pv 2)) e_int) (e_var 6 (pv 6)))))) (fun _ _ _ _ _ => (e_var 8 (pv 8))) (by decide))))) (g_name (pg_name (i := 7) sc__law_no_map.nd rfl (by first | exact .inl rfl | exact .inr rfl))))
    (s_one (s_asg (e_frz (f_cat (ls_e (e_var 4 (pv 4))) (l_f (f_lst (a_cons (e_add (e_add (e_slice (e_var 5 (pv 5)) o_no (o_int (e_var 6 (pv 6)))) (e_tup (a_cons (e_do gd tk ((ok__law_pick T).up (by decide)) hr rfl T.d__law_pick.hm T.d__law_pick.fn.kp T.d__law_pick.bd (a_cons (e_var 0 (pv 0)) (a_cons (e_var 7 (pv 7)) a_nil))) a_nil))) (e_slice (e_var 5 (pv 5)) (o_int (e_add (e_var 6 (pv 6)) e_int)) o_no)) (a_cons (e_slice (e_var 5 (pv 5)) o_no (o_int (e_neg e_int))) (a_cons (e_frz (f_repL (f_lst (a_cons (e_neg e_int) a_nil)) (e_len rfl T.z_len (a_cons (e_var 5 (pv 5)) a_nil)))) a_nil))))))) (g_name (pg_name (i := 4) sc__law_no_map.nd rfl (by first | exact .inl rfl | exact .inr rfl))))))))) s_nil)
    (s_cons (s_asg (e_do gd tk ((ok__law_pick T).up (by decide)) hr rfl T.d__law_pick.hm T.d__law_pick.fn.kp T.d__law_pick.bd (a_cons (e_var 0 (pv 0)) (a_cons (e_var 4 (pv 4)) a_nil))) (g_name (pg_name (i := 10) sc__law_no_map.nd rfl (by first | exact .inl rfl | exact .inr rfl))))
    (s_one (s_ret (e_ifExp (b_not (b_val (e_do gd tk ((ok__law_is_map T).up (by decide)) hr rfl T.d__law_is_map.hm T.d__law_is_map.fn.kp T.d__law_is_map.bd (a_cons (e_var 3 (pv 3)) (a_cons (e_var 10 (pv 10)) a_nil))))) (e_var 10 (pv 10)) e_non)))))))
theorem sc_law : FnScope ["script", "deck", "go", "kinds", "one", "other", "kept", "due", "told", "onto", "own", "bad", "odd", "none", "heard"] ["script"] (defScope (top 57)) := ⟨rfl, rfl, rfl, by decide +kernel, rfl, by decide +kernel, by decide +kernel⟩
def F_law : FS := sSeq (sSet (.nm 1) (eCall 1 G__law_deck (eCons (eVar 0) (eNil))))
    (sSeq (sFor (eBind (eCons (eOk (.int 6)) (eNil)) fun ds => optL (fRange1 ds)) (.nm 2) (sSeq (sSet (.nm 3) (eCall 1 G__law_kinds (eCons (eVar 1) (eNil))))
    (sSeq (sSet (.nm 4) (eCall 4 G__law_pattern (eCons (eVar 1) (eCons (eVar 3) (eCons (eCall 2 G__law_draw (eCons (eVar 1) (eCons (eOk (.int 5)) (eNil)))) (eCons (eOk (.int 3)) (eNil)))))))
    (sSeq (sSet (.nm 5) (eCall 2 G__law_pick (eCons (eVar 1) (eCons (eMap .lst (eLst (eCons (eVar 4) (eCons (eCall 4 G__law_pattern (eCons (eVar 1) (eCons (eVar 3) (eCons (eCall 2 G__law_draw (eCons (eVar 1) (eCons (eOk (.int 5)) (eNil)))) (eCons (eOk (.int 3)) (eNil)))))) (eCons (eCall 4 G__law_pattern (eCons (eVar 1) (eCons (eVar 3) (eCons (eCall 2 G__law_draw (eCons (eVar 1) (eCons (eOk (.int 4)) (eNil)))) (eCons (eOk (.int 3)) (eNil)))))) (eNil)))))) (eNil)))))
    (sSeq (sPar [6, 7] (mVal (eBind (eCons (eTup (eCons (eVar 3) (eCons (eVar 4) (eCons (eVar 5) (eNil))))) (eNil)) fun ds => optE (fRepr ds)) (mVal (eCall 2 G__law_maps (eCons (eVar 4) (eCons (eVar 5) (eNil)))) (mNil))))
    (sSeq (sSet (.nm 8) (eCall 3 G_maps (eCons (eVar 3) (eCons (eVar 4) (eCons (eVar 5) (eNil))))))
    (sSeq (sIf (bOr (bNot (eT (eCall 2 G__law_same (eCons (eMap .lst (eLst (eCons (eVar 8) (eCons (eCallK 3 [2, 1, 0] 3 G_maps (eCons (eVar 5) (eCons (eVar 4) (eCons (eVar 3) (eNil))))) (eNil))))) (eCons (eMap .lst (eLst (eCons (eVar 7) (eCons (eVar 7) (eNil))))) (eNil)))))) (eB (eOp gNe (eBind (eCons (eVar 8) (eNil)) fun ds => optE (fLenV ds)) (eCall 2 G__law_many (eCons (eVar 4) (eCons (eVar 5) (eNil))))))) (sRet (eOk (.bl false))) (sNx))
    (sSeq (sFor (eSlF (eCall 2 G__law_mixed (eCons (eVar 1) (eCons (eMap .lst (eSeq (eVar 7))) (eNil)))) (oNo) (oInt (eOk (.int 3)))) (.nm 9) (sSeq (sSet (.nm 10) (eCall 3 G__law_image (eCons (eVar 4) (eCons (eVar 5) (eCons (eVar 9) (eNil))))))
    (sIf (bNot (eT (eCall 2 G__law_same (eCons (eMap .lst (eLst (eCons (eCall 4 G_images (eCons (eVar 3) (eCons (eVar 4) (eCons (eVar 5) (eCons (eVar 9) (eNil)))))) (eCons (eCallK 4 [3, 2, 1, 0] 4 G_images (eCons (eVar 9) (eCons (eVar 5) (eCons (eVar 4) (eCons (eVar 3) (eNil)))))) (eNil))))) (eCons (eMap .lst (eLst (eCons (eVar 10) (eCons (eVar 10) (eNil))))) (eNil)))))) (sRet (eOk (.bl false))) (sNx))))
    (sSeq (sPar [11, 12] (mVal (eCall 2 G__law_pick (eCons (eVar 1) (eCons (eMap .lst (eLst (eCons (eOk .non) (eCons (eTup (eNil)) (eCons (eSlT (eVar 3) (oNo) (oInt (eOk (.int 1)))) (eCons (eMap .lst (eSeq (eVar 3))) (eNil))))))) (eNil)))) (mVal (eCall 2 G__law_pick (eCons (eVar 1) (eCons (eMap .lst (eLst (eCons (eOk .non) (eCons (eTup (eNil)) (eCons (eSlT (eVar 4) (oNo) (oInt (eOk (.int 1)))) (eCons (eMap .lst (eSeq (eVar 4))) (eCons (eTup (eCons (eOp gIx (eVar 4) (eOk (.int 0))) (eCons (eOk .non) (eNil)))) (eNil)))))))) (eNil)))) (mNil))))
    (sSeq (sSet (.nm 13) (eCall 3 G__law_no_map (eCons (eVar 1) (eCons (eVar 4) (eCons (eVar 5) (eNil))))))
    (sSeq (sOwn 14 (eLst (eCons (eHeard kn0 "told" cs__law_heard 2 (eCall 3 G_maps (eCons (eVar 11) (eCons (eVar 12) (eCons (eVar 12) (eNil)))))) (eNil))))
    (sSeq (sDrop (eOwnM 14 oAppend (eCons (eHeard kn0 "told" cs__law_heard 2 (eCall 3 G_maps (eCons (eVar 3) (eCons (eVar 12) (eCons (eOk .non) (eNil)))))) (eNil))))
    (sSeq (sDrop (eOwnM 14 oAppend (eCons (eHeard kn0 "told" cs__law_heard 2 (eCallK 3 [2, 1, 0] 3 G_maps (eCons (eVar 12) (eCons (eVar 4) (eCons (eVar 3) (eNil)))))) (eNil))))
    (sSeq (sDrop (eOwnM 14 oAppend (eCons (eHeard kn0 "told" cs__law_heard 2 (eCall 4 G_images (eCons (eVar 3) (eCons (eVar 12) (eCons (eOk .non) (eCons (eOk .non) (eNil))))))) (eNil))))
    (sSeq (sDrop (eOwnM 14 oAppend (eCons (eHeard kn0 "told" cs__law_heard 2 (eCall 4 G_images (eCons (eVar 3) (eCons (eVar 4) (eCons (eVar 12) (eCons (eOk .non) (eNil))))))) (eNil))))
    (sSeq (sDrop (eOwnM 14 oAppend (eCons (eHeard kn0 "told" cs__law_heard 2 (eCall 4 G_images (eCons (eVar 3) (eCons (eVar 4) (eCons (eVar 5) (eCons (eVar 13) (eNil))))))) (eNil))))
    (sSeq (sDrop (eOwnM 14 oAppend (eCons (eHeard kn0 "told" cs__law_heard 2 (eCallK 4 [3, 2, 1, 0] 4 G_images (eCons (eVar 13) (eCons (eVar 5) (eCons (eVar 4) (eCons (eVar 3) (eNil))))))) (eNil))))
    (sSeq (sSet (.nm 7) (eMap .lst (eLst (eCons (eTup (eCons (eOk (.str "kinds")) (eCons (eVar 11) (eCons (eOk (.bl true)) (eNil))))) (eCons (eTup (eCons (eOk (.str "pattern")) (eCons (eVar 12) (eCons (eOk (.bl true)) (eNil))))) (eCons (eTup (eCons (eOk (.str "pattern")) (eCons (eVar 12) (eCons (eOk (.bl true)) (eNil))))) (eCons (eTup (eCons (eOk (.str "pattern")) (eCons (eVar 12) (eCons (eOk (.bl true)) (eNil))))) (eCons (eTup (eCons (eOk (.str "pattern")) (eCons (eVar 12) (eCons (eOk (.bl true)) (eNil))))) (eNil)))))))))
    (sIf (bOr (bNot (eT (eCall 2 G__law_same (eCons (eGive 14) (eCons (eMap .lst (eCat (eBind (eVar 7) frzOf) (eRepL (eLst (eCons (eTup (eCons (eOk (.str "fit")) (eCons (eVar 13) (eCons (eOk (.bl true)) (eNil))))) (eNil))) (eOk (.int 2))))) (eNil)))))) (eB (eOp gNe (eBind (eCons (eTup (eCons (eVar 3) (eCons (eVar 4) (eCons (eVar 5) (eNil))))) (eNil)) fun ds => optE (fRepr ds)) (eVar 6)))) (sRet (eOk (.bl false))) (sNx))))))))))))))))))))
    (sRet (eOk (.bl true))))
def G_law : Fn := bodyG 15 F_law
def T_law (T : Pg P K mg) : List (Addr × Str) := [(T.l_law_P, "law" ++ ".<locals>." ++ "<lambda>")]
theorem ok_law (T : Pg P K mg) (TB : TabB base mg T.l_law_c T.l_law_P) : FnG P w K mg base 11 T.d_law.f T.d_law.fd ["script"] (spG ⟨K, mg, Tabs (T_law T), tabs_stab⟩ 1 G_law) :=
  fnClrC T.d_law.fn sc_law fun cdv A outer s H E ec gd hr tk hp =>
    have hu : (A.deeper (envOfC "law" (defScope (top 57)) s.heap.objs.size T.d_law.f cdv)).units + 65 < cLine := by have := hr.un; omega
    have hu1 := Nat.lt_of_le_of_lt (Nat.add_le_add_left (show 1 ≤ 65 by decide) _) hu
    have hcd : cdv = .ref T.l_law_c := ec.symm.trans T.l_law_code
    have tu : ∀ p ∈ T_law T, p.1 = T.l_law_P → p.2 = "law" ++ ".<locals>." ++ "<lambda>" := fun p hp _ => by rw [List.mem_singleton.mp hp]
    (s_cons (s_asg (e_do gd tk ((ok__law_deck T).up (by decide)) hr rfl T.d__law_deck.hm T.d__law_deck.fn.kp T.d__law_deck.bd (a_cons (e_var 0 (pv 0)) a_nil)) (g_name (pg_name (i := 1) sc_law.nd rfl (by first | exact .inl rfl | exact .inr rfl))))
    (s_cons (s_for hp rfl (i_range1 rfl T.z_range (a_cons e_int a_nil)) (g_name (pg_name (i := 2) sc_law.nd rfl (by first | exact .inl rfl | exact .inr rfl))) (s_cons (s_asg (e_do gd tk ((ok__law_kinds T).up (by decide)) hr rfl T.d__law_kinds.hm T.d__law_kinds.fn.kp T.d__law_kinds.bd (a_cons (e_var 1 (pv 1)) a_nil)) (g_name (pg_name (i := 3) sc_law.nd rfl (by first | exact .inl rfl | exact .inr rfl))))
    (s_cons (s_asg (e_do gd tk ((ok__law_pattern T).up (by decide)) hr rfl T.d__law_pattern.hm T.d__law_pattern.fn.kp T.d__law_pattern.bd (a_cons (e_var 1 (pv 1)) (a_cons (e_var 3 (pv 3)) (a_cons (e_do gd tk ((ok__law_draw T).up (by decide)) hr rfl T.d__law_draw.hm T.d__law_draw.fn.kp T.d__law_draw.bd (a_cons (e_var 1 (pv 1)) (a_cons e_int a_nil))) (a_cons e_int a_nil))))) (g_name (pg_name (i := 4) sc_law.nd rfl (by first | exact .inl rfl | exact .inr rfl))))
    (s_cons (s_asg (e_do gd tk ((ok__law_pick T).up (by decide)) hr rfl T.d__law_pick.hm T.d__law_pick.fn.kp T.d__law_pick.bd (a_cons (e_var 1 (pv 1)) (a_cons (e_frz (f_lst (a_cons (e_var 4 (pv 4)) (a_cons (e_do gd tk ((ok__law_pattern T).up (by decide)) hr rfl T.d__law_pattern.hm T.d__law_pattern.fn.kp T.d__law_pattern.bd (a_cons (e_var 1 (pv 1)) (a_cons (e_var 3 (pv 3)) (a_cons (e_do gd tk ((ok__law_draw T).up (by decide)) hr rfl T.d__law_draw.hm T.d__law_draw.fn.kp T.d__law_draw.bd (a_cons (e_var 1 (pv 1)) (a_cons e_int a_nil))) (a_cons e_int a_nil))))) (a_cons (e_do gd tk ((ok__law_pattern T).up (by decide)) hr rfl T.d__law_pattern.hm T.d__law_pattern.fn.kp T.d__law_pattern.bd (a_cons (e_var 1 (pv 1)) (a_cons (e_var 3 (pv 3)) (a_cons (e_do gd tk ((ok__law_draw T).up (by decide)) hr rfl T.d__law_draw.hm T.d__law_draw.fn.kp T.d__law_draw.bd (a_cons (e_var 1 (pv 1)) (a_cons e_int a_nil))) (a_cons e_int a_nil))))) a_nil))))) a_nil))) (g_name (pg_name (i := 5) sc_law.nd rfl (by first | exact .inl rfl | exact .inr rfl))))
    (s_cons (s_par2 (i := 6) (j := 7) rfl sc_law.nd rfl rfl rfl rfl (m_val (e_repr gd hu rfl T.z_repr (a_cons (e_tup (a_cons (e_var 3 (pv 3)) (a_cons (e_var 4 (pv 4)) (a_cons (e_var 5 (pv 5)) a_nil)))) a_nil)) (m_val (e_do gd tk ((ok__law_maps T).up (by decide)) hr rfl T.d__law_maps.hm T.d__law_maps.fn.kp T.d__law_maps.bd (a_cons (e_var 4 (pv 4)) (a_cons (e_var 5 (pv 5)) a_nil))) m_nil)))
    (s_cons (s_asg (e_do gd tk ((ok_maps T).up (by decide)) hr rfl T.d_maps.hm T.d_maps.fn.kp T.d_maps.bd (a_cons (e_var 3 (pv 3)) (a_cons (e_var 4 (pv 4)) (a_cons (e_var 5 (pv 5)) a_nil)))) (g_name (pg_name (i := 8) sc_law.nd rfl (by first | exact .inl rfl | exact .inr rfl))))
    (s_cons (s_if (b_w (w_or (b_not (b_val (e_do gd tk ((ok__law_same T).up (by decide)) hr rfl T.d__law_same.hm T.d__law_same.fn.kp T.d__law_same.bd (a_cons (e_frz (f_lst (a_cons (e_var 8 (pv 8)) (a_cons (e_doK (ks := ["other", "one", "kinds"]) (idx := [2, 1, 0]) gd tk ((ok_maps T).up (by decide)) hr rfl T.d_maps.hm T.d_maps.fn.kp T.k_maps_2_1_0 (k_cons (e_var 5 (pv 5)) (k_cons (e_var 4 (pv 4)) (k_cons (e_var 3 (pv 3)) k_nil)))) a_nil)))) (a_cons (e_frz (f_lst (a_cons (e_var 7 (pv 7)) (a_cons (e_var 7 (pv 7)) a_nil)))) a_nil))))) (w_or1 (b_ne hu (e_len rfl T.z_len (a_cons (e_var 8 (pv 8)) a_nil)) (e_do gd tk ((ok__law_many T).up (by decide)) hr rfl T.d__law_many.hm T.d__law_many.fn.kp T.d__law_many.bd (a_cons (e_var 4 (pv 4)) (a_cons (e_var 5 (pv 5)) a_nil))))))) (s_one (s_ret e_bl)) s_nil)
    (s_cons (s_for hp rfl (i_f (f_sliceF (e_do gd tk ((ok__law_mixed T).up (by decide)) hr rfl T.d__law_mixed.hm T.d__law_mixed.fn.kp T.d__law_mixed.bd (a_cons (e_var 1 (pv 1)) (a_cons (e_frz (f_list rfl T.z_list (sq_e (e_var 7 (pv 7))))) a_nil))) o_no (o_int e_int))) (g_name (pg_name (i := 9) sc_law.nd rfl (by first | exact .inl rfl | exact .inr rfl))) (s_cons (s_asg (e_do gd tk ((ok__law_image T).up (by decide)) hr rfl T.d__law_image.hm T.d__law_image.fn.kp T.d__law_image.bd (a_cons (e_var 4 (pv 4)) (a_cons (e_var 5 (pv 5)) (a_cons (e_var 9 (pv 9)) a_nil)))) (g_name (pg_name (i := 10) sc_law.nd rfl (by first | exact .inl rfl | exact .inr rfl))))
    (s_one (s_if (b_not (b_val (e_do gd tk ((ok__law_same T).up (by decide)) hr rfl T.d__law_same.hm T.d__law_same.fn.kp T.d__law_same.bd (a_cons (e_frz (f_lst (a_cons (e_do gd tk ((ok_images T).up (by decide)) hr rfl T.d_images.hm T.d_images.fn.kp T.d_images.bd (a_cons (e_var 3 (pv 3)) (a_cons (e_var 4 (pv 4)) (a_cons (e_var 5 (pv 5)) (a_cons (e_var 9 (pv 9)) a_nil))))) (a_cons (e_doK (ks := ["onto", "other", "one", "kinds"]) (idx := [3, 2, 1, 0]) gd tk ((ok_images T).up (by decide)) hr rfl T.d_images.hm T.d_images.fn.kp T.k_images_3_2_1_0 (k_cons (e_var 9 (pv 9)) (k_cons (e_var 5 (pv 5)) (k_cons (e_var 4 (pv 4)) (k_cons (e_var 3 (pv 3)) k_nil))))) a_nil)))) (a_cons (e_frz (f_lst (a_cons (e_var 10 (pv 10)) (a_cons (e_var 10 (pv 10)) a_nil)))) a_nil))))) (s_one (s_ret e_bl)) s_nil))))
    (s_cons (s_parC rfl (j_cons (pg_name (i := 11) sc_law.nd rfl (by first | exact .inl rfl | exact .inr rfl)) (j_cons (pg_name (i := 12) sc_law.nd rfl (by first | exact .inl rfl | exact .inr rfl)) j_nil)) (m_val (e_do gd tk ((ok__law_pick T).up (by decide)) hr rfl T.d__law_pick.hm T.d__law_pick.fn.kp T.d__law_pick.bd (a_cons (e_var 1 (pv 1)) (a_cons (e_frz (f_lst (a_cons e_non (a_cons (e_tup a_nil) (a_cons (e_slice (e_var 3 (pv 3)) o_no (o_int e_int)) (a_cons (e_frz (f_list rfl T.z_list (sq_e (e_var 3 (pv 3))))) a_nil)))))) a_nil))) (m_val (e_do gd tk ((ok__law_pick T).up (by decide)) hr rfl T.d__law_pick.hm T.d__law_pick.fn.kp T.d__law_pick.bd (a_cons (e_var 1 (pv 1)) (a_cons (e_frz (f_lst (a_cons e_non (a_cons (e_tup a_nil) (a_cons (e_slice (e_var 4 (pv 4)) o_no (o_int e_int)) (a_cons (e_frz (f_list rfl T.z_list (sq_e (e_var 4 (pv 4))))) (a_cons (e_tup (a_cons (e_ix (e_var 4 (pv 4)) e_int) (a_cons e_non a_nil))) a_nil))))))) a_nil))) m_nil)))
    (s_cons (s_asg (e_do gd tk ((ok__law_no_map T).up (by decide)) hr rfl T.d__law_no_map.hm T.d__law_no_map.fn.kp T.d__law_no_map.bd (a_cons (e_var 1 (pv 1)) (a_cons (e_var 4 (pv 4)) (a_cons (e_var 5 (pv 5)) a_nil)))) (g_name (pg_name (i := 13) sc_law.nd rfl (by first | exact .inl rfl | exact .inr rfl))))
    (s_cons (s_own (i := 14) sc_law.nd rfl (by first | exact .inl rfl | exact .inr rfl) (f_lst (a_cons (do__law_heard (k := 8) T rfl TB hcd (List.mem_singleton.mpr rfl) tu hr (lamS_by (sc := defScope (top 57)) (by decide +kernel)) (fun A outer s H E f c' gq hr => have gd := gq.trans gd; have tk := L2.takes_of rfl rfl rfl rfl; (e_do gd tk ((ok_maps T).up (by decide)) hr rfl T.d_maps.hm T.d_maps.fn.kp T.d_maps.bd (a_cons (e_var 11 (pv 11)) (a_cons (e_var 12 (pv 12)) (a_cons (e_var 12 (pv 12)) a_nil)))))) a_nil)))
    (s_cons (s_expr (e_ownM md_append PySem.F.slot_list_append PySem.F.type_list_append mt_append (pv 14) (a_cons (do__law_heard (k := 8) T rfl TB hcd (List.mem_singleton.mpr rfl) tu hr (lamS_by (sc := defScope (top 57)) (by decide +kernel)) (fun A outer s H E f c' gq hr => have gd := gq.trans gd; have tk := L2.takes_of rfl rfl rfl rfl; (e_do gd tk ((ok_maps T).up (by decide)) hr rfl T.d_maps.hm T.d_maps.fn.kp T.d_maps.bd (a_cons (e_var 3 (pv 3)) (a_cons (e_var 12 (pv 12)) (a_cons e_non a_nil)))))) a_nil)))
    (s_cons (s_expr (e_ownM md_append PySem.F.slot_list_append PySem.F.type_list_append mt_append (pv 14) (a_cons (do__law_heard (k := 8) T rfl TB hcd (List.mem_singleton.mpr rfl) tu hr (lamS_by (sc := defScope (top 57)) (by decide +kernel)) (fun A outer s H E f c' gq hr => have gd := gq.trans gd; have tk := L2.takes_of rfl rfl rfl rfl; (e_doK (ks := ["other", "one", "kinds"]) (idx := [2, 1, 0]) gd tk ((ok_maps T).up (by decide)) hr rfl T.d_maps.hm T.d_maps.fn.kp T.k_maps_2_1_0 (k_cons (e_var 12 (pv 12)) (k_cons (e_var 4 (pv 4)) (k_cons (e_var 3 (pv 3)) k_nil)))))) a_nil)))
    (s_cons (s_expr (e_ownM md_append PySem.F.slot_list_append PySem.F.type_list_append mt_append (pv 14) (a_cons (do__law_heard (k := 8) T rfl TB hcd (List.mem_singleton.mpr rfl) tu hr (lamS_by (sc := defScope (top 57)) (by decide +kernel)) (fun A outer s H E f c' gq hr => have gd := gq.trans gd; have tk := L2.takes_of rfl rfl rfl rfl; (e_do gd tk ((ok_images T).up (by decide)) hr rfl T.d_images.hm T.d_images.fn.kp T.d_images.bd (a_cons (e_var 3 (pv 3)) (a_cons (e_var 12 (pv 12)) (a_cons e_non (a_cons e_non a_nil))))))) a_nil)))
    (s_cons (s_expr (e_ownM md_append PySem.F.slot_list_append PySem.F.type_list_append mt_append (pv 14) (a_cons (do__law_heard (k := 8) T rfl TB hcd (List.mem_singleton.mpr rfl) tu hr (lamS_by (sc := defScope (top 57)) (by decide +kernel)) (fun A outer s H E f c' gq hr => have gd := gq.trans gd; have tk := L2.takes_of rfl rfl rfl rfl; (e_do gd tk ((ok_images T).up (by decide)) hr rfl T.d_images.hm T.d_images.fn.kp T.d_images.bd (a_cons (e_var 3 (pv 3)) (a_cons (e_var 4 (pv 4)) (a_cons (e_var 12 (pv 12)) (a_cons e_non a_nil))))))) a_nil)))
    (s_cons (s_expr (e_ownM md_append PySem.F.slot_list_append PySem.F.type_list_append mt_append (pv 14) (a_cons (do__law_heard (k := 8) T rfl TB hcd (List.mem_singleton.mpr rfl) tu hr (lamS_by (sc := defScope (top 57)) (by decide +kernel)) (fun A outer s H E f c' gq hr => have gd := gq.trans gd; have tk := L2.takes_of rfl rfl rfl rfl; (e_do gd tk ((ok_images T).up (by decide)) hr rfl T.d_images.hm T.d_images.fn.kp T.d_images.bd (a_cons (e_var 3 (pv 3)) (a_cons (e_var 4 (pv 4)) (a_cons (e_var 5 (pv 5)) (a_cons (e_var 13 (pv 13)) a_nil))))))) a_nil)))
    (s_cons (s_expr (e_ownM md_append PySem.F.slot_list_append PySem.F.type_list_append mt_append (pv 14) (a_cons (do__law_heard (k := 8) T rfl TB hcd (List.mem_singleton.mpr rfl) tu hr (lamS_by (sc := defScope (top 57)) (by decide +kernel)) (fun A outer s H E f c' gq hr => have gd := gq.trans gd; have tk := L2.takes_of rfl rfl rfl rfl; (e_doK (ks := ["onto", "other", "one", "kinds"]) (idx := [3, 2, 1, 0]) gd tk ((ok_images T).up (by decide)) hr rfl T.d_images.hm T.d_images.fn.kp T.k_images_3_2_1_0 (k_cons (e_var 13 (pv 13)) (k_cons (e_var 5 (pv 5)) (k_cons (e_var 4 (pv 4)) (k_cons (e_var 3 (pv 3)) k_nil))))))) a_nil)))
    (s_cons (s_asg (e_frz (f_lst (a_cons (e_tup (a_cons e_str (a_cons (e_var 11 (pv 11)) (a_cons e_bl a_nil)))) (a_cons (e_tup (a_cons e_str (a_cons (e_var 12 (pv 12)) (a_cons e_bl a_nil)))) (a_cons (e_tup (a_cons e_str (a_cons (e_var 12 (pv 12)) (a_cons e_bl a_nil)))) (a_cons (e_tup (a_cons e_str (a_cons (e_var 12 (pv 12)) (a_cons e_bl a_nil)))) (a_cons (e_tup (a_cons e_str (a_cons (e_var 12 (pv 12)) (a_cons e_bl a_nil)))) a_nil))))))) (g_name (pg_name (i := 7) sc_law.nd rfl (by first | exact .inl rfl | exact .inr rfl))))
    (s_one (s_if (b_w (w_or (b_not (b_val (e_do gd tk ((ok__law_same T).up (by decide)) hr rfl T.d__law_same.hm T.d__law_same.fn.kp T.d__law_same.bd (a_cons (e_give 14 (pv 14)) (a_cons (e_frz (f_cat (ls_e (e_var 7 (pv 7))) (l_f (f_repL (f_lst (a_cons (e_tup (a_cons e_str (a_cons (e_var 13 (pv 13)) (a_cons e_bl a_nil)))) a_nil)) e_int)))) a_nil))))) (w_or1 (b_ne hu (e_repr gd hu rfl T.z_repr (a_cons (e_tup (a_cons (e_var 3 (pv 3)) (a_cons (e_var 4 (pv 4)) (a_cons (e_var 5 (pv 5)) a_nil)))) a_nil)) (e_var 6 (pv 6)))))) (s_one (s_ret e_bl)) s_nil))))))))))))))))))))
    (s_one (s_ret e_bl))))
end
end Dn
-- P07a
/-! k07: the deck. -/
namespace Dn
open PySem L2
section
variable {R M : Mem} {Q : D → Mem → Prop}
theorem draw_ok {many : Int} (h0 : 0 < many) (h1 : many < 1073741824) (I : Deck R M) (k : ∀ r M', 0 ≤ r → r < many → Deck R M' → Q (.int r) M') : Fn.Ok G__law_draw [.ref 1, .int many] M Q := by
  obtain ⟨left, m, d, hl, rfl⟩ := I
  unfold G__law_draw F__law_draw
  rw [Ok_body]
  have mx : (if many > 2 then many else 2 : Int) > 0 ∧ (if many > 2 then many else 2 : Int) < 1073741824 := by split <;> omega
  have hm : many ≠ 0 := by omega
  have fd : ∀ x, gFdiv (.int x) (.int (if many > 2 then many else 2)) = some (.int (x.fdiv (if many > 2 then many else 2))) := fun x => gFdiv_ok mx.1 mx.2
  have kk : ∀ (x : Int) (l : List Int) (m d : Int), l.length ≤ 63 → Q (.int (x.fmod many)) (DK l m d R) := fun x l m d h => k _ _ (fmod_low h0) (fmod_high h0) ⟨_, _, _, h, rfl⟩
  rcases List.eq_nil_or_concat left with e | ⟨l, c, e⟩
  · subst e
    simp [startR, gMul_l, gMul_r, gMul_fmod, gMod_ok, gFdiv_ok, hm]
    exact kk _ _ _ _ (by decide)
  · rw [List.concat_eq_append] at e
    subst e
    have hl' : l.length ≤ 63 := by simp at hl; omega
    have hl2 : l.length < 16777216 := by omega
    simp [startR, gMul_l, gMul_r, gMul_fmod, gMod_ok, gFdiv_ok, hm, fd, hl2]
    by_cases hc : (1000000000000000000 : Int) ≤ c
    · exact .inr ⟨hc, kk _ _ _ _ (by simpa using hl)⟩
    · exact .inl ⟨by omega, kk _ _ _ _ hl'⟩
/-- an item of a list or a tuple -/
theorem pickL_ok {xs : List D} (h0 : xs ≠ []) (h1 : xs.length < 1000000) (I : Deck R M) (k : ∀ x M', x ∈ xs → Deck R M' → Q x M') : Fn.Ok G__law_pick [.ref 1, .lst xs] M Q := by
  unfold G__law_pick F__law_pick
  have hp := List.length_pos_iff.mpr h0
  simp [startR]
  refine draw_ok (by omega) (by omega) I fun r M' r0 r1 I' => ?_
  have hr : r.toNat < xs.length := by omega
  exact ⟨xs[r.toNat], (atI_nn r0).trans (List.getElem?_eq_getElem hr), k _ _ (List.getElem_mem hr) I'⟩
theorem pickT_ok {xs : List D} (h0 : xs ≠ []) (h1 : xs.length < 1000000) (I : Deck R M) (k : ∀ x M', x ∈ xs → Deck R M' → Q x M') : Fn.Ok G__law_pick [.ref 1, .tup xs] M Q := by
  unfold G__law_pick F__law_pick
  have hp := List.length_pos_iff.mpr h0
  simp [startR]
  refine draw_ok (by omega) (by omega) I fun r M' r0 r1 I' => ?_
  have hr : r.toNat < xs.length := by omega
  exact ⟨xs[r.toNat], (atI_nn r0).trans (List.getElem?_eq_getElem hr), k _ _ (List.getElem_mem hr) I'⟩
/-- the items in another order -/
theorem mixed_ok {xs : List D} (h1 : xs.length < 100000) (I : Deck R M) (k : ∀ ys M', ys.Perm xs → Deck R M' → Q (.lst ys) M') : Fn.Ok G__law_mixed [.ref 1, .lst xs] M Q := by
  unfold G__law_mixed F__law_mixed
  simp [startR, setIs, range1_ok (show xs.length < 1000000 by omega)]
  refine for_ok (fun i ρ M => ∃ left found t, ρ = [.val (.ref 1), .val (.lst xs), .own (.lst left), .own (.lst found), t] ∧ left.length + i = xs.length ∧ (found ++ left).Perm xs ∧ Deck R M) ⟨xs, [], .un, rfl, rfl, by simp, I⟩ (fun i d ρ M hd ⟨left, found, t, e, hl, hp, I⟩ => ?_) fun ρ M ⟨left, found, t, e, hl, hp, I⟩ => ?_
  · subst e
    have hi : i < xs.length := by have := (List.getElem?_eq_some_iff.mp hd).1; rw [rangeD_len] at this; exact this
    simp [ownL]
    refine draw_ok (by omega) (by omega) I fun r M' r0 r1 I' => ?_
    have hr : r.toNat < left.length := by omega
    simp [oPopAt_ok r0 (List.getElem?_eq_getElem hr) (by omega)]
    refine ⟨?_, ?_⟩
    · have := hp.length_eq; rw [List.length_append] at this; omega
    · refine ⟨by rw [List.length_eraseIdx_of_lt hr]; omega, ?_, I'⟩
      refine List.Perm.trans ?_ hp
      refine List.Perm.append_left found ?_
      exact perm_erase hr
  · subst e
    simp
    rw [rangeD_len] at hl
    have : left = [] := List.length_eq_zero_iff.mp (by omega)
    subst this
    exact k _ _ (by simpa using hp) I
/-- the deck of a script -/
theorem deck_ok {ns : List Int} (k : ∀ M', Deck [] M' → Q (.ref 1) M') : Fn.Ok G__law_deck [.lst (ns.map .int)] [] Q := by
  unfold G__law_deck F__law_deck
  have ct : cutD (ns.map D.int) none (some 63) = (ns.take 63).map .int := by rw [cut_first (by decide), ← List.map_take]; rfl
  have hl : (ns.take 63).length ≤ 63 := by rw [List.length_take]; omega
  generalize ns.take 63 = ms at ct hl
  simp [startR, ct]
  refine for_ok (fun i ρ M => ∃ m t, ρ = [.val (.lst (ns.map .int)), .val (.int m), t] ∧ M = []) ⟨_, _, rfl, rfl⟩ (fun i d ρ M hd ⟨m, t, e, eM⟩ => ?_) fun ρ M ⟨m, t, e, eM⟩ => ?_
  · subst e eM
    rw [List.getElem?_map] at hd
    obtain ⟨c, _, rfl⟩ := Option.map_eq_some_iff.mp hd
    simp [gMul_r, gMod_ok]
  · subst e eM
    simp
    refine comp_pure ?_
    simp [ct]
    refine ⟨fun _ => true, fun d => d, fun c hc => ?_, ?_⟩
    · simp [wipeR]
    · simp
      rw [show mergeD [] [] [.inr "left", .inr "mixed", .inr "draws"] [.ref 0, .int m, .int 0] = (deckKeys, [.ref 0, .int m, .int 0]) from rfl]
      refine k _ ⟨ms.reverse, m, 0, by simpa using hl, ?_⟩
      unfold DK
      simp
end
end Dn
-- P07b
/-! k07: drawn kinds. -/
namespace Dn
open PySem L2
theorem perm_of_map {α β : Type} {f : α → β} : ∀ {ys zs : List β}, ys.Perm zs → ∀ {xs : List α}, zs = xs.map f → ∃ ws : List α, ys = ws.map f ∧ ws.Perm xs := by
  intro ys zs h
  induction h with
  | nil => intro xs e; exact ⟨[], rfl, by cases xs with | nil => exact .nil | cons _ _ => simp at e⟩
  | cons x h ih =>
    intro xs e
    cases xs with
    | nil => simp at e
    | cons a xs =>
      simp only [List.map_cons, List.cons.injEq] at e
      obtain ⟨ws, e1, p⟩ := ih e.2
      exact ⟨a :: ws, by rw [e1, e.1]; rfl, p.cons a⟩
  | swap x y l =>
    intro xs e
    match xs with
    | [] => simp at e
    | [a] => simp at e
    | a :: b :: xs =>
      simp only [List.map_cons, List.cons.injEq] at e
      exact ⟨b :: a :: xs, by rw [e.1, e.2.1, e.2.2]; rfl, .swap a b xs⟩
  | trans h1 h2 ih1 ih2 =>
    intro xs e
    obtain ⟨ws, e1, p1⟩ := ih2 e
    obtain ⟨vs, e2, p2⟩ := ih1 e1
    exact ⟨vs, e2, p2.trans p1⟩
structure TieK where
  name : Str
  ends : List Str
  size : Int
structure Kinds where
  places : List Str
  ties : List TieK
def sD (xs : List Str) : List D := xs.map .str
abbrev encTK (t : TieK) : D := .tup [.str t.name, .tup (sD t.ends), .int t.size]
abbrev encK (k : Kinds) : D := .tup [.tup (sD k.places), .tup (k.ties.map encTK)]
def menuP : List Str := ["item", "box", "c3"]
def menuT : List Str := ["at", "next", "heat", "t2"]
structure GoodTK (ps : List Str) (t : TieK) : Prop where
  name : t.name ∈ menuT
  e1 : 1 ≤ t.ends.length
  e3 : t.ends.length ≤ 3
  sub : ∀ e ∈ t.ends, e ∈ ps
  s1 : 1 ≤ t.size
  s3 : t.size ≤ 3
structure GoodK (k : Kinds) : Prop where
  ne : k.places ≠ []
  few : k.places.length ≤ 3
  nd : k.places.Nodup
  menu : ∀ p ∈ k.places, p ∈ menuP
  tne : k.ties ≠ []
  tfew : k.ties.length ≤ 4
  tnd : (k.ties.map (·.name)).Nodup
  ties : ∀ t ∈ k.ties, GoodTK k.places t
section
variable {R M : Mem} {Q : D → Mem → Prop}
theorem kinds_ok (I : Deck R M) (k : ∀ K M', GoodK K → Deck R M' → Q (encK K) M') : Fn.Ok G__law_kinds [.ref 1] M Q := by
  unfold G__law_kinds F__law_kinds
  simp [startR]
  refine mixed_ok (by simp) I fun ys M1 hp I1 => ?_
  obtain ⟨zs, e, pz⟩ := perm_of_map hp (xs := menuP) rfl
  subst e
  have lz : zs.length = 3 := pz.length_eq
  refine draw_ok (by omega) (by omega) I1 fun r M2 r0 r1 I2 => ?_
  simp
  rw [cut_first (by omega), ← List.map_take]
  have nd : (zs.take (1 + r).toNat).Nodup := (pz.nodup_iff.mpr (by decide)).sublist (List.take_sublist _ _)
  have hm : ∀ p ∈ zs.take (1 + r).toNat, p ∈ menuP := fun p hp => pz.mem_iff.mp (List.mem_of_mem_take hp)
  have ln : (zs.take (1 + r).toNat).length = (1 + r).toNat := by rw [List.length_take]; omega
  generalize hps : zs.take (1 + r).toNat = ps at nd hm ln
  have pne : ps ≠ [] := by intro z; rw [z] at ln; simp at ln; omega
  refine mixed_ok (by simp) I2 fun ys M3 hp3 I3 => ?_
  obtain ⟨ws, e, pw⟩ := perm_of_map hp3 (xs := menuT) rfl
  subst e
  have lw : ws.length = 4 := pw.length_eq
  refine draw_ok (by omega) (by omega) I3 fun q M4 q0 q1 I4 => ?_
  simp
  rw [cut_first (by omega), ← List.map_take]
  have nd2 : (ws.take (1 + q).toNat).Nodup := (pw.nodup_iff.mpr (by decide)).sublist (List.take_sublist _ _)
  have hm2 : ∀ p ∈ ws.take (1 + q).toNat, p ∈ menuT := fun p hp => pw.mem_iff.mp (List.mem_of_mem_take hp)
  have ln2 : (ws.take (1 + q).toNat).length = (1 + q).toNat := by rw [List.length_take]; omega
  generalize hts : ws.take (1 + q).toNat = ns at nd2 hm2 ln2
  refine for_ok (fun i ρ M => ∃ (ts : List TieK) (t3 t4 t5 : Sl), ρ = [.val (.ref 1), .val (.lst (sD ps)), .own (.lst (ts.map encTK)), t3, t4, t5] ∧ ts.map (·.name) = ns.take i ∧ (∀ t ∈ ts, GoodTK ps t) ∧ Deck R M) ⟨[], _, _, _, rfl, by simp, by simp, I4⟩
    (fun i d ρ M hd ⟨ts, t3, t4, t5, e, hn, hg, I⟩ => ?_) fun ρ M ⟨ts, t3, t4, t5, e, hn, hg, I⟩ => ?_
  · subst e
    rw [List.getElem?_map] at hd
    obtain ⟨n, hd2, rfl⟩ := Option.map_eq_some_iff.mp hd
    have hi : ns[i]? = some n := hd2
    simp
    refine comp_ok ?_
    simp
    refine pickL_ok ?_ ?_ I fun x M5 hx I5 => ?_
    · simp
    · simp
    obtain ⟨j, hj, j1, j3⟩ : ∃ j : Int, x = .int j ∧ 1 ≤ j ∧ j ≤ 3 := by
      simp only [List.mem_cons, List.not_mem_nil, or_false] at hx
      rcases hx with h | h | h | h | h <;> exact ⟨_, h, by decide, by decide⟩
    subst hj
    simp [range1_int (show 0 ≤ j by omega) (show j < 1000000 by omega)]
    refine ⟨fun i acc M => ∃ es : List Str, acc = sD es ∧ es.length = i ∧ (∀ e ∈ es, e ∈ ps) ∧ Deck R M, ⟨[], rfl, rfl, by simp, I5⟩, fun i2 d acc M hd ⟨es, e, hl, hs, I⟩ => ?_, fun xs M ⟨es, e, hl, hs, I⟩ => ?_⟩
    · subst e
      simp [wipeR]
      refine pickL_ok ?_ ?_ I fun x M6 hx I6 => ?_
      · unfold sD; simpa using pne
      · unfold sD; simp; omega
      unfold sD at hx
      rw [List.mem_map] at hx
      obtain ⟨y, hy, rfl⟩ := hx
      refine ⟨es ++ [y], by unfold sD; simp, by simp [hl], fun z hz => ?_, I6⟩
      rcases List.mem_append.mp hz with h | h
      · exact hs z h
      · rw [List.mem_singleton.mp h]; exact hy
    · subst e
      rw [rangeD_len] at hl
      simp [ownL]
      refine draw_ok (by omega) (by omega) I fun r M' r0 r1 I' => ?_
      simp
      have hlt : ts.length = i := by
        have := congrArg List.length hn
        rw [List.length_map, List.length_take] at this
        have h2 := (List.getElem?_eq_some_iff.mp hi).1
        omega
      have h2 := (List.getElem?_eq_some_iff.mp hi).1
      refine ⟨by omega, ts ++ [⟨n, es, 1 + r⟩], by simp, ?_, ?_, I'⟩
      · rw [List.map_append, hn, take_snoc hi]; rfl
      · intro t ht
        rcases List.mem_append.mp ht with h | h
        · exact hg t h
        · rw [List.mem_singleton.mp h]
          exact ⟨hm2 n (List.mem_of_getElem? hi), by show 1 ≤ es.length; omega, by show es.length ≤ 3; omega, hs, by show 1 ≤ 1 + r; omega, by show 1 + r ≤ 3; omega⟩
  · subst e
    simp
    rw [List.length_map] at hn
    have hn' : ts.map (·.name) = ns := by rw [hn, List.take_length]
    refine k ⟨ps, ts⟩ M ⟨pne, by show ps.length ≤ 3; omega, nd, hm, ?_, ?_, by rw [hn']; exact nd2, hg⟩ I
    · intro z
      have z' : ts = [] := z
      rw [z'] at hn'
      rw [← hn'] at ln2
      simp at ln2
      omega
    · have := congrArg List.length hn'
      rw [List.length_map] at this
      show ts.length ≤ 4
      omega
end
end Dn
-- P07c
/-! k07: drawn patterns. -/
namespace Dn
open PySem L2
/-! ### data -/
@[simp] theorem toPy_int {i : Int} : toPy (.int i) = some (.int i) := by simp only [toPy]
@[simp] theorem toPy_str {x : Str} : toPy (.str x) = some (.str x) := by simp only [toPy]
@[simp] theorem toPy_bl {b : Bool} : toPy (.bl b) = some (.bool b) := by simp only [toPy]
@[simp] theorem toPy_non : toPy .non = some .none := by simp only [toPy]
theorem toPy_tup {ds : List D} {bs : List PyData} (h : toPys ds = some bs) : toPy (.tup ds) = some (.tuple bs) := by simp only [toPy, h, Option.map_some]
theorem toPy_lst {ds : List D} {bs : List PyData} (h : toPys ds = some bs) : toPy (.lst ds) = some (.list bs) := by simp only [toPy, h, Option.map_some]
@[simp] theorem toPys_nil : toPys [] = some [] := by simp only [toPys]
theorem toPys_cons {d : D} {ds : List D} {x : PyData} {xs : List PyData} (h : toPy d = some x) (h2 : toPys ds = some xs) : toPys (d :: ds) = some (x :: xs) := by simp only [toPys, h, h2]
theorem toPys_all {α : Type} {f : α → D} {g : α → PyData} : ∀ {l : List α}, (∀ x ∈ l, toPy (f x) = some (g x)) → toPys (l.map f) = some (l.map g)
  | [], _ => toPys_nil
  | x :: l, h => toPys_cons (h x (.head _)) (toPys_all fun y hy => h y (.tail _ hy))
theorem toPys_sD (l : List Str) : toPys (sD l) = some (l.map .str) := toPys_all fun _ _ => toPy_str
theorem toPys_ints (l : List Int) : toPys (l.map .int) = some (l.map .int) := toPys_all fun _ _ => toPy_int
@[simp] theorem gEq_str {x y : Str} : gEq (.str x) (.str y) = some (.bl (x == y)) := by
  unfold gEq eqvD
  simp only [toPy_str]
  rw [if_pos (by simp [PyData.depth])]
  simp [PyData.eqv]
@[simp] theorem gEq_int {x y : Int} : gEq (.int x) (.int y) = some (.bl (x == y)) := by
  unfold gEq eqvD
  simp only [toPy_int]
  rw [if_pos (by simp [PyData.depth])]
  simp [PyData.eqv]
@[simp] theorem gNe_str {x y : Str} : gNe (.str x) (.str y) = some (.bl (!(x == y))) := by
  unfold gNe eqvD
  simp only [toPy_str]
  rw [if_pos (by simp [PyData.depth])]
  simp [PyData.eqv]
@[simp] theorem gNe_int {x y : Int} : gNe (.int x) (.int y) = some (.bl (!(x == y))) := by
  unfold gNe eqvD
  simp only [toPy_int]
  rw [if_pos (by simp [PyData.depth])]
  simp [PyData.eqv]
@[simp] theorem gNe_bl {x y : Bool} : gNe (.bl x) (.bl y) = some (.bl (!(x == y))) := by
  unfold gNe eqvD
  simp only [toPy_bl]
  rw [if_pos (by simp [PyData.depth])]
  simp [PyData.eqv]
theorem eqv_nil {ds : List D} {bs : List PyData} (h : toPys ds = some bs) : eqvD (.tup ds) (.tup []) = some ds.isEmpty := by
  unfold eqvD
  rw [toPy_tup h, toPy_tup toPys_nil]
  simp only []
  rw [if_pos (by simp [PyData.depth, PyData.depthAll])]
  cases ds with
  | nil => cases h; simp [PyData.eqv, PyData.eqvAll]
  | cons d ds =>
    simp only [toPys] at h
    split at h
    · cases h; simp [PyData.eqv, PyData.eqvAll]
    · cases h
theorem gNe_nil {ds : List D} {bs : List PyData} (h : toPys ds = some bs) : gNe (.tup ds) (.tup []) = some (.bl (!ds.isEmpty)) := by unfold gNe; rw [eqv_nil h]; rfl
theorem gEq_nil {ds : List D} {bs : List PyData} (h : toPys ds = some bs) : gEq (.tup ds) (.tup []) = some (.bl ds.isEmpty) := by unfold gEq; rw [eqv_nil h]; rfl
theorem sorted_ok {ds : List D} {bs : List PyData} (h : toPys ds = some bs) (ok : sortsOk bs = true) : ∃ es, sortD ds = some es ∧ es.Perm ds ∧ es.Pairwise fun a b => W.dataLe false pyOf a b = true := by
  unfold sortD
  by_cases hl : ds.length ≤ 1
  · rw [if_pos hl]
    refine ⟨ds, rfl, .refl _, ?_⟩
    match ds, hl with
    | [], _ => exact .nil
    | [x], _ => simp
  · rw [if_neg hl, h]
    simp only []
    rw [if_pos ok]
    have t := W.sortLe_total (PyProof.Rows.listOrd PyProof.Rows.itemOrd) false fun b : D => W.keyToks (pyOf b)
    exact ⟨_, rfl, List.mergeSort_perm _ _, List.pairwise_mergeSort t.trans (fun a b => by rw [Bool.or_eq_true]; exact t.total a b) _⟩
@[simp] theorem Ok_eSorted {ρ : Rho} {M : Mem} {L : E (List D)} {Q : List D → Rho → Mem → Prop} : (eSorted L ρ M).Ok Q ↔ (L ρ M).Ok fun ds ρ M => ∃ es, sortD ds = some es ∧ Q es ρ M := by
  unfold eSorted; rw [Ok_eBind]
  constructor <;> intro h <;> refine h.mono fun ds ρ M q => ?_
  · split at q
    · rename_i es e; exact ⟨es, e, Ok_ok.mp q⟩
    · exact (Ok_stuck.mp q).elim
  · obtain ⟨es, e, q⟩ := q
    rw [e]; exact Ok_ok.mpr q
structure TieP where
  kind : Str
  value : Int
  ends : List Int
structure Patt where
  places : List Str
  ties : List TieP
abbrev encTP (t : TieP) : D := .tup [.str t.kind, .int t.value, .tup (t.ends.map .int)]
abbrev pyTP (t : TieP) : PyData := .tuple [.str t.kind, .int t.value, .tuple (t.ends.map .int)]
abbrev encP (p : Patt) : D := .tup [.tup (sD p.places), .tup (p.ties.map encTP)]
theorem toPy_TP (t : TieP) : toPy (encTP t) = some (pyTP t) := toPy_tup (toPys_cons toPy_str (toPys_cons toPy_int (toPys_cons (toPy_tup (toPys_ints _)) toPys_nil)))
theorem toPys_TP (l : List TieP) : toPys (l.map encTP) = some (l.map pyTP) := toPys_all fun t _ => toPy_TP t
theorem alike_ints : ∀ (a b : List Int), W.alikeAll (a.map .int) (b.map .int) = true
  | [], _ => by simp [W.alikeAll]
  | _ :: _, [] => by simp [W.alikeAll]
  | x :: a, y :: b => by simp [W.alikeAll, W.alike, alike_ints a b]
theorem depth_ints : ∀ (a : List Int), PyData.depthAll (a.map .int) ≤ 1
  | [] => by simp [PyData.depthAll]
  | x :: a => by have := depth_ints a; simp [PyData.depthAll, PyData.depth]; omega
theorem alike_TP (s t : TieP) : W.alike (pyTP s) (pyTP t) = true := by simp [W.alike, W.alikeAll, alike_ints]
theorem depth_TP (t : TieP) : (pyTP t).depth ≤ 60 := by
  have := depth_ints t.ends
  simp [PyData.depth, PyData.depthAll]; omega
theorem sorts_TP (l : List TieP) : sortsOk (l.map pyTP) = true := by
  unfold sortsOk
  simp only [Bool.and_eq_true, Bool.or_eq_true, List.all_eq_true, List.mem_map, decide_eq_true_eq]
  refine ⟨⟨?_, .inl ?_⟩, ?_⟩
  · rintro _ ⟨s, _, rfl⟩ _ ⟨t, _, rfl⟩; exact alike_TP s t
  · rintro _ ⟨s, _, rfl⟩; rfl
  · rintro _ ⟨s, _, rfl⟩; exact depth_TP s
structure GoodTP (K : Kinds) (ps : List Str) (t : TieP) : Prop where
  tk : ∃ k ∈ K.ties, k.name = t.kind ∧ 0 ≤ t.value ∧ t.value < k.size ∧ t.ends.length = k.ends.length ∧ ∀ (j : Nat) (e : Int), t.ends[j]? = some e → 0 ≤ e ∧ ps[e.toNat]? = k.ends[j]?
structure GoodP (K : Kinds) (p : Patt) : Prop where
  few : p.places.length ≤ 4
  sub : ∀ x ∈ p.places, x ∈ K.places
  tfew : p.ties.length ≤ 3
  ties : ∀ t ∈ p.ties, GoodTP K p.places t
  asc : (p.ties.map encTP).Pairwise fun a b => W.dataLe false pyOf a b = true
theorem toPys_TK (l : List TieK) : ∃ bs, toPys (l.map encTK) = some bs := ⟨_, toPys_all (g := fun t : TieK => .tuple [.str t.name, .tuple (t.ends.map .str), .int t.size]) fun t _ => toPy_tup (toPys_cons toPy_str (toPys_cons (toPy_tup (toPys_sD _)) (toPys_cons toPy_int toPys_nil)))⟩
theorem atI_sD {ps : List Str} {i : Nat} (h : i < ps.length) : atI (sD ps) (i : Int) = some (.str ps[i]) := by
  rw [atI_nn (by omega)]
  unfold sD
  rw [Int.toNat_natCast, List.getElem?_map, List.getElem?_eq_getElem h]; rfl
def isSpot (ps : List Str) (e : Str) (d : D) : Bool := match d with
  | .int i => decide (ps[i.toNat]? = some e)
  | _ => false
def intN (i : Nat) : D := .int (i : Nat)
theorem spots_eq {ps : List Str} {e : Str} : (rangeD 0 ps.length).filter (isSpot ps e) = (M7.spots ps e).map intN := by
  unfold rangeD M7.spots
  rw [List.filter_map]
  have h1 : ∀ l : List Nat, l.map (fun (i : Nat) => D.int (0 + (i : Int))) = l.map intN := fun l => List.map_congr_left fun i _ => by unfold intN; rw [Int.zero_add]
  rw [h1]
  congr 1
  apply List.filter_congr
  intro i _
  simp [isSpot]
def isNilL (d : D) : Bool := match d with
  | .lst [] => true
  | _ => false
def strOf (d : D) : Str := match d with
  | .str e => e
  | _ => ""
section
variable {R M : Mem} {Q : D → Mem → Prop}
theorem pattern_ok {K : Kinds} {many most : Nat} (gk : GoodK K) (h4 : many ≤ 4) (hm : most ≤ 3) (I : Deck R M) (k : ∀ p M', GoodP K p → p.places.length = many → Deck R M' → Q (encP p) M') : Fn.Ok G__law_pattern [.ref 1, encK K, .int many, .int most] M Q := by
  unfold G__law_pattern F__law_pattern
  simp [startR]
  refine comp_ok ?_
  simp [range1_ok (show many < 1000000 by omega)]
  refine ⟨fun i acc M => ∃ es : List Str, acc = sD es ∧ es.length = i ∧ (∀ e ∈ es, e ∈ K.places) ∧ Deck R M, ⟨[], rfl, rfl, by simp, I⟩, fun i2 d acc M hd ⟨es, e, hl, hs, I⟩ => ?_, fun xs M ⟨ps, e, hl, hs, I⟩ => ?_⟩
  · subst e
    simp [wipeR]
    refine pickT_ok ?_ ?_ I fun x M6 hx I6 => ?_
    · unfold sD; simpa using gk.ne
    · have := gk.few; unfold sD; simp; omega
    unfold sD at hx
    rw [List.mem_map] at hx
    obtain ⟨y, hy, rfl⟩ := hx
    refine ⟨es ++ [y], by unfold sD; simp, by simp [hl], fun z hz => ?_, I6⟩
    rcases List.mem_append.mp hz with h | h
    · exact hs z h
    · rw [List.mem_singleton.mp h]; exact hy
  · subst e
    rw [rangeD_len] at hl
    obtain ⟨bs, hb⟩ := toPys_TK K.ties
    have hne : (K.ties.map encTK).isEmpty = false := by cases h : K.ties with | nil => exact absurd h gk.tne | cons _ _ => rfl
    simp [setIs, gNe_nil hb, hne]
    refine draw_ok (by omega) (by omega) I fun r M2 r0 r1 I2 => ?_
    refine ⟨_, range1_int r0 (by omega), ?_⟩
    refine for_ok (fun i ρ M => ∃ (ts : List TieP) (s6 s7 s8 s9 s10 s11 s12 s13 : Sl), ρ = [.val (.ref 1), .val (encK K), .val (.int many), .val (.int most), .val (.tup (sD ps)), .own (.lst (ts.map encTP)), s6, s7, s8, s9, s10, s11, s12, s13] ∧ ts.length ≤ i ∧ (∀ t ∈ ts, GoodTP K ps t) ∧ Deck R M)
      ⟨[], _, _, _, _, _, _, _, _, rfl, by simp, by simp, I2⟩ (fun i d ρ M hd ⟨ts, s6, s7, s8, s9, s10, s11, s12, s13, e, hn, hg, I⟩ => ?_) fun ρ M ⟨ts, s6, s7, s8, s9, s10, s11, s12, s13, e, hn, hg, I⟩ => ?_
    · subst e
      have hi3 := (List.getElem?_eq_some_iff.mp hd).1
      rw [rangeD_len] at hi3
      simp
      refine pickT_ok ?_ ?_ I fun x M3 hx I3 => ?_
      · simpa using gk.tne
      · have := gk.tfew; simp; omega
      obtain ⟨tk, htk, rfl⟩ := List.mem_map.mp hx
      have gt := gk.ties tk htk
      simp [bindP, bindPs]
      refine comp_pure ?_
      simp
      refine ⟨fun _ => true, fun d => .lst ((M7.spots ps (strOf d)).map intN), fun d hd => ?_, ?_⟩
      · unfold sD at hd
        obtain ⟨e, he, rfl⟩ := List.mem_map.mp hd
        simp [wipeR]
        refine comp_pure ?_
        simp [range1_ok (show many < 1000000 by omega)]
        refine ⟨isSpot ps e, fun d => d, fun d hd => ?_, ?_⟩
        · obtain ⟨j, hj, rfl⟩ := mem_rangeD hd
          have hj' : j < ps.length := by omega
          simp [wipeR, atI_sD hj', isSpot, List.getElem?_eq_getElem hj']
          by_cases q : ps[j] = e <;> simp [q]
        · rw [← hl, spots_eq]
          simp [strOf]
      · have es : List.map (fun d => D.lst (List.map intN (M7.spots ps (strOf d)))) (List.filter (fun x => true) (sD tk.ends)) = tk.ends.map (fun e => D.lst ((M7.spots ps e).map intN)) := by
          rw [List.filter_eq_self.mpr (by simp)]
          unfold sD
          rw [List.map_map]
          rfl
        rw [es]
        refine comp_pureE isNilL (fun _ => .int 1) ?_
        simp
        refine ⟨fun e he => ?_, ?_⟩
        · cases q : M7.spots ps e <;> simp [wipeR, isNilL]
        · by_cases hall : ∃ e ∈ tk.ends, M7.spots ps e = []
          · obtain ⟨e, he, hq⟩ := hall
            refine .inl ⟨⟨_, ⟨e, he, rfl⟩, ?_⟩, ?_⟩
            · rw [hq]; rfl
            · exact ⟨ts, rfl, by omega, hg, I3⟩
          · have hall' : ∀ e ∈ tk.ends, M7.spots ps e ≠ [] := fun e he z => hall ⟨e, he, z⟩
            refine .inr ⟨fun e he => ?_, ?_⟩
            · have := hall' e he
              cases q : M7.spots ps e with
              | nil => exact absurd q this
              | cons _ _ => simp [isNilL]
            · refine ⟨rfl, ?_⟩
              refine draw_ok (by have := gt.s1; omega) (by have := gt.s3; omega) I3 fun v M4 v0 v1 I4 => ?_
              refine comp_okE (fun i acc M => ∃ es : List Int, acc = es.map .int ∧ es.length = i ∧ (∀ (j : Nat) (e : Int), es[j]? = some e → 0 ≤ e ∧ ps[e.toNat]? = tk.ends[j]?) ∧ Deck R M) ?_
              simp only [Ok_eIter, Ok_eVar, List.getElem?_cons_succ, List.getElem?_cons_zero, Option.some.injEq, Sl.val.injEq, exists_eq_left', iterOf_lst, Ok_ok]
              refine ⟨⟨[], rfl, rfl, by simp, I4⟩, fun j d2 acc M hd2 ⟨es, hea, hej, hes, I5⟩ => ?_, fun acc M ⟨es, hea, hel, hes, I5⟩ => ?_⟩
              · subst hea
                rw [List.getElem?_map] at hd2
                obtain ⟨e, hde, rfl⟩ := Option.map_eq_some_iff.mp hd2
                simp [wipeR]
                have hem := List.mem_of_getElem? hde
                refine pickL_ok ?_ ?_ I5 fun x M6 hx I6 => ?_
                · simpa using hall' e hem
                · simp only [List.length_map]
                  have : (M7.spots ps e).length ≤ ps.length := by rw [M7.spots_length]; exact List.count_le_length
                  omega
                obtain ⟨i2, hi2, rfl⟩ := List.mem_map.mp hx
                refine ⟨es ++ [(i2 : Int)], by simp [intN], by simp [hej], fun j2 e2 h2 => ?_, I6⟩
                by_cases hj2 : j2 < es.length
                · rw [List.getElem?_append_left hj2] at h2
                  exact hes j2 e2 h2
                · have : j2 = es.length := by
                    have := (List.getElem?_eq_some_iff.mp h2).1
                    rw [List.length_append, List.length_singleton] at this
                    omega
                  subst this
                  rw [List.getElem?_append_right (Nat.le_refl _)] at h2
                  simp at h2
                  subst h2
                  refine ⟨by omega, ?_⟩
                  rw [Int.toNat_natCast, hej, hde]
                  exact M7.mem_spots.mp hi2
              · subst hea
                rw [List.length_map] at hel
                simp
                refine ⟨by omega, ts ++ [⟨tk.name, v, es⟩], by simp, by simp; omega, fun t ht => ?_, I5⟩
                rcases List.mem_append.mp ht with h | h
                · exact hg t h
                · rw [List.mem_singleton.mp h]
                  exact ⟨tk, htk, rfl, v0, v1, hel, hes⟩
    · subst e
      rw [rangeD_len] at hn
      obtain ⟨es, e1, pe, asc⟩ := sorted_ok (toPys_TP ts) (sorts_TP ts)
      obtain ⟨ts', e2, pt⟩ := perm_of_map pe rfl
      subst e2
      simp [e1]
      refine k ⟨ps, ts'⟩ M ⟨by show ps.length ≤ 4; omega, hs, ?_, fun t ht => hg t (pt.mem_iff.mp ht), asc⟩ hl I
      have := pt.length_eq
      show ts'.length ≤ 3
      omega
end
end Dn
-- P07d
/-! k07: what is valid. -/
namespace Dn
open PySem L2
section
variable {R M : Mem} {ρ : Rho} {Q : D → Mem → Prop}
@[simp] theorem Ok_eCallL {i : Nat} {tb : Str → Option (Nat × Fn)} {L : E (List D)} {Q : D → Rho → Mem → Prop} : (eCallL i tb L ρ M).Ok Q ↔ ∃ n p, ρ[i]? = some (.val (.fn n)) ∧ tb n = some p ∧ (eCall p.1 p.2 L ρ M).Ok Q := by
  unfold eCallL
  constructor
  · intro h
    split at h
    · rename_i n e
      split at h
      · rename_i m G e2; exact ⟨n, (m, G), e, e2, h⟩
      · exact (Ok_stuck.mp h).elim
    · exact (Ok_stuck.mp h).elim
  · rintro ⟨n, ⟨m, G⟩, e, e2, h⟩
    rw [e]
    simp only [e2]
    exact h
@[simp] theorem Ok_eChain {g g' : D → D → Option D} {F G G2 : E D} {Q : D → Rho → Mem → Prop} : (eChain g g' F G G2 ρ M).Ok Q ↔ (F ρ M).Ok fun a ρ M => (G ρ M).Ok fun b ρ M => ∃ k, g a b = some (.bl k) ∧ if k = true then (G2 ρ M).Ok fun c ρ M => ∃ d, g' b c = some d ∧ Q d ρ M else Q (.bl false) ρ M := by
  unfold eChain
  simp only [Ok_eBind, Ok_optE]
  constructor <;> intro h <;> refine h.mono fun a ρ M q1 => q1.mono fun b ρ M q2 => ?_
  · obtain ⟨d, e, q⟩ := q2
    cases d <;> first | exact (Ok_stuck.mp q).elim | skip
    rename_i k
    refine ⟨k, e, ?_⟩
    cases k
    · simpa using q
    · simpa using q
  · obtain ⟨k, e, q⟩ := q2
    refine ⟨_, e, ?_⟩
    cases k
    · simpa using q
    · simpa using q
theorem names_ok : ∀ x ∈ menuP ++ menuT, ∀ M, G_is_name [.str x] M = .ok (.bl true) [] M := by
  intro x hx M
  simp only [menuP, menuT, List.cons_append, List.nil_append, List.mem_cons, List.not_mem_nil, or_false] at hx
  rcases hx with rfl | rfl | rfl | rfl | rfl | rfl | rfl <;> with_unfolding_all rfl
theorem name_ok {x : Str} (h : x ∈ menuP ++ menuT) (k : Q (.bl true) M) : Fn.Ok G_is_name [.str x] M Q := Fn.ok_of (names_ok x h M) k
theorem fAll_true {ds : List D} (h : ∀ d ∈ ds, d = .bl true) : fAll ds = some (.bl true) := by
  unfold fAll
  have : ∃ bs, bools ds = some bs ∧ bs.all id = true := by
    induction ds with
    | nil => exact ⟨[], rfl, rfl⟩
    | cons d ds ih =>
      obtain ⟨bs, e, a⟩ := ih fun x hx => h x (.tail _ hx)
      rw [h d (.head _)]
      exact ⟨true :: bs, by simp [bools, e], by simpa using a⟩
  obtain ⟨bs, e, a⟩ := this
  rw [e]
  simp [a]
theorem short_ok {ds : List D} (h : ds.length ≤ 20000) (k : Q (.bl true) M) : Fn.Ok G_is_short [.tup ds] M Q := by
  unfold G_is_short F_is_short
  have : ((ds.length : Int) ≤ 20000) := by omega
  simp [startR, this, k]
theorem tuple_of_ok {xs : List Str} (h : ∀ x ∈ xs, x ∈ menuP ++ menuT) (hl : xs.length ≤ 20000) (k : Q (.bl true) M) : Fn.Ok G_is_tuple_of [.tup (sD xs), .fn "is_name"] M Q := by
  unfold G_is_tuple_of F_is_tuple_of
  simp [startR]
  refine short_ok (by unfold sD; simpa using hl) ?_
  simp
  refine comp_pureE (fun _ => true) (fun _ => .bl true) ?_
  simp
  refine ⟨fun d hd => ?_, ?_⟩
  · unfold sD at hd
    obtain ⟨x, hx, rfl⟩ := List.mem_map.mp hd
    simp [wipeR, tb_is_tuple_of]
    exact name_ok (h x hx) ⟨rfl, rfl⟩
  · rw [fAll_true (by simp)]
    simpa using k
theorem whole_ok {v lo hi : Int} (k : Q (.bl (decide (lo ≤ v ∧ v ≤ hi))) M) : Fn.Ok G_is_whole [.int v, .int lo, .int hi] M Q := by
  unfold G_is_whole F_is_whole
  simp [startR]
  by_cases h : lo ≤ v
  · simp [h] at k ⊢; exact .inr k
  · simp [h] at k ⊢; exact ⟨by omega, k⟩
theorem dcomp_pure {vs : List Nat} {S : E (List D)} {pt : Pt} {C : E Bool} {K T : E D} {Q : List Key × List D → Rho → Mem → Prop} (p : D → Bool) (f : D → Key × D)
    (h : (S ρ M).Ok fun ds ρ M => (∀ d, d ∈ ds → ∃ ρ1, bindP pt d (wipeR ρ vs) = some ρ1 ∧ (C ρ1 M).Ok fun b ρ2 M2 => (b = p d ∧ M2 = M) ∧ if p d = true then (kvT K T ρ2 M2).Ok fun x ρ3 M3 => wipeR ρ3 vs = wipeR ρ vs ∧ x = f d ∧ M3 = M else wipeR ρ2 vs = wipeR ρ vs) ∧
      Q (putAll ([], []) ((ds.filter p).map f)) ρ M) : (eDcomp vs S pt C K T ρ M).Ok Q := by
  unfold eDcomp
  rw [Ok_eBind]
  refine h.mono fun ds ρ M ⟨hs, he⟩ => ?_
  rw [Ok_bind, Ok_noExc]
  refine compGo_pure p f rfl hs fun ρ' hw => ?_
  rw [Ok_ok, back_eq hw]
  exact he
@[simp] theorem Ok_kvT {K T : E D} {Q : Key × D → Rho → Mem → Prop} : (kvT K T ρ M).Ok Q ↔ (K ρ M).Ok fun k ρ M => ∃ q, keyOf k = some q ∧ (T ρ M).Ok fun v ρ M => Q (q, v) ρ M := by
  unfold kvT
  rw [Ok_eBind]
  constructor <;> intro h <;> refine h.mono fun k ρ M q => ?_
  · cases e : keyOf k with
    | none => rw [e] at q; exact (Ok_stuck.mp q).elim
    | some x => rw [e] at q; simp at q; exact ⟨x, rfl, q⟩
  · obtain ⟨x, e, q⟩ := q
    rw [e]; simp; exact q
theorem putAll_len : ∀ (ps : List (Key × D)) (ks : List Key) (ds : List D), ks.Nodup → ((putAll (ks, ds) ps).1.length ≤ ks.length + ps.length) ∧ ((putAll (ks, ds) ps).1.length = ks.length + ps.length ↔ (ks ++ ps.map (·.1)).Nodup)
  | [], ks, ds, nd => by simp [putAll, nd]
  | p :: ps, ks, ds, nd => by
    have e : putAll (ks, ds) (p :: ps) = putAll (dPut ks ds p.1 p.2) ps := rfl
    rw [e]
    unfold dPut
    by_cases hk : dHas ks p.1 = true
    · rw [if_pos hk]
      obtain ⟨h1, h2⟩ := putAll_len ps ks (dSet ks ds p.1 p.2) nd
      refine ⟨by rw [List.length_cons]; omega, ⟨fun h => ?_, fun h => ?_⟩⟩
      · rw [List.length_cons] at h; omega
      · exfalso
        have hm : p.1 ∈ ks := by
          unfold dHas at hk
          simpa using hk
        rw [List.map_cons, List.nodup_append] at h
        exact h.2.2 _ hm _ (.head _) rfl
    · rw [if_neg hk]
      have hm : p.1 ∉ ks := fun z => hk (by unfold dHas; simpa using z)
      have nd' : (ks ++ [p.1]).Nodup := by
        rw [List.nodup_append]
        exact ⟨nd, by simp, fun a ha b hb z => by rw [List.mem_singleton.mp hb] at z; exact hm (z ▸ ha)⟩
      obtain ⟨h1, h2⟩ := putAll_len ps (ks ++ [p.1]) (ds ++ [p.2]) nd'
      rw [List.length_append, List.length_singleton] at h1 h2
      refine ⟨by rw [List.length_cons]; omega, ?_⟩
      rw [List.length_cons, show ks.length + (ps.length + 1) = ks.length + 1 + ps.length by omega, h2, List.map_cons, List.append_assoc]
      rfl
theorem nodup_map {α β : Type} {f : α → β} (hf : ∀ a b, f a = f b → a = b) {l : List α} (h : l.Nodup) : (l.map f).Nodup := by
  unfold List.Nodup at h ⊢
  rw [List.pairwise_map]
  exact h.imp fun h z => h (hf _ _ z)
theorem nodup_of_map {α β : Type} {f : α → β} {l : List α} (h : (l.map f).Nodup) : l.Nodup := by
  unfold List.Nodup at h ⊢
  rw [List.pairwise_map] at h
  exact h.imp fun h z => h (congrArg f z)
theorem keys_len {ps : List (Key × D)} (h : (ps.map (·.1)).Nodup) : (putAll ([], []) ps).1.length = ps.length := by
  have := (putAll_len ps [] [] .nil).2.mpr h
  simpa using this
def keyD (d : D) : Key := match d with
  | .int i => .inl i
  | .str x => .inr x
  | _ => .inl 0
theorem unlikeT_ok {xs : List Str} (h : xs.Nodup) (k : Q (.bl true) M) : Fn.Ok G_are_unlike [.tup (sD xs)] M Q := by
  unfold G_are_unlike F_are_unlike
  simp [startR]
  refine dcomp_pure (fun _ => true) (fun d => (keyD d, .bl true)) ?_
  simp
  refine ⟨fun d hd => ?_, ?_⟩
  · unfold sD at hd
    obtain ⟨x, hx, rfl⟩ := List.mem_map.mp hd
    simp [wipeR, keyD]
  · rw [List.filter_eq_self.mpr (by simp), keys_len]
    · simpa using k
    · unfold sD
      rw [List.map_map, List.map_map]
      exact nodup_map (f := fun x => Sum.inr x) (fun a b e => Sum.inr.inj e) h
theorem unlikeL_ok {xs : List Str} (h : xs.Nodup) (k : Q (.bl true) M) : Fn.Ok G_are_unlike [.lst (sD xs)] M Q := by
  unfold G_are_unlike F_are_unlike
  simp [startR]
  refine dcomp_pure (fun _ => true) (fun d => (keyD d, .bl true)) ?_
  simp
  refine ⟨fun d hd => ?_, ?_⟩
  · unfold sD at hd
    obtain ⟨x, hx, rfl⟩ := List.mem_map.mp hd
    simp [wipeR, keyD]
  · rw [List.filter_eq_self.mpr (by simp), keys_len]
    · simpa using k
    · unfold sD
      rw [List.map_map, List.map_map]
      exact nodup_map (f := fun x => Sum.inr x) (fun a b e => Sum.inr.inj e) h
theorem in_strs {x : Str} {xs : List Str} : gIn (.str x) (.tup (sD xs)) = some (.bl (decide (x ∈ xs))) := by
  have d0 : ∀ xs : List Str, PyData.depthAll (xs.map .str) = 0 := fun xs => by induction xs with | nil => rfl | cons x xs ih => simp [PyData.depthAll, PyData.depth, ih]
  have e : gInS false (.str x) (.tup (sD xs)) = some (.bl (decide (x ∈ xs))) := by
    unfold gInS
    rw [toPy_str, toPy_tup (toPys_sD xs)]
    simp only []
    rw [if_pos (by rw [d0]; simp)]
    simp only [Bool.false_eq_true, if_false, List.any_map, Option.some.injEq, D.bl.injEq]
    rw [Bool.eq_iff_iff]
    simp [PyData.eqv]
  unfold gIn orG
  rw [e]
theorem tieKind_ok {K : Kinds} {t : TieK} (hm : ∀ p ∈ K.places, p ∈ menuP) (g : GoodTK K.places t) (k : Q (.bl true) M) : Fn.Ok G_is_tie_kind [.tup (sD K.places), encTK t] M Q := by
  unfold G_is_tie_kind F_is_tie_kind
  have h1 := g.e1
  have h3 := g.e3
  simp [startR]
  refine name_ok (List.mem_append_right _ g.name) ?_
  simp
  refine tuple_of_ok (fun e he => List.mem_append_left _ (hm e (g.sub e he))) (by omega) ?_
  have l1 : (1 : Int) ≤ ((sD t.ends).length : Int) := by unfold sD; rw [List.length_map]; omega
  have l3 : ((sD t.ends).length : Int) ≤ 3 := by unfold sD; rw [List.length_map]; omega
  simp [l1, l3]
  refine .inr (.inr (comp_pureE (fun _ => true) (fun _ => .bl true) ?_))
  simp
  refine ⟨fun d hd => ?_, ?_⟩
  · unfold sD at hd
    obtain ⟨x, hx, rfl⟩ := List.mem_map.mp hd
    have hx' := g.sub x hx
    simp [wipeR, in_strs, hx']
  · rw [fAll_true (by simp)]
    simp
    refine whole_ok ?_
    have s1 := g.s1
    have s3 := g.s3
    have : (decide (1 ≤ t.size ∧ t.size ≤ 8)) = true := by simp; omega
    rw [this]; exact k
theorem kindsValue_ok {K : Kinds} (g : GoodK K) (k : Q (.bl true) M) : Fn.Ok G_is_kinds_value [encK K] M Q := by
  unfold G_is_kinds_value F_is_kinds_value
  have hf := g.few
  simp [startR]
  refine tuple_of_ok (fun e he => List.mem_append_left _ (g.menu e he)) (by omega) ?_
  have hne : (sD K.places).isEmpty = false := by unfold sD; cases h : K.places with | nil => exact absurd h g.ne | cons _ _ => rfl
  simp [bindP, bindPs, gEq_nil (toPys_sD K.places), hne]
  refine unlikeT_ok g.nd ?_
  simp
  refine comp_pureE (fun _ => true) (fun _ => .bl true) ?_
  simp
  refine ⟨fun t ht => ?_, ?_⟩
  · simp [wipeR]
    exact tieKind_ok g.menu (g.ties t ht) ⟨rfl, rfl⟩
  · rw [fAll_true (by simp)]
    simp
    refine comp_pureE (fun _ => true) (fun d => (gIx d (.int 0)).getD .non) ?_
    simp
    refine ⟨fun t ht => ?_, ?_⟩
    · simp [wipeR]
    · rw [List.filter_eq_self.mpr (by simp), List.map_map]
      have : (K.ties.map ((fun d => (gIx d (.int 0)).getD .non) ∘ encTK)) = sD (K.ties.map (·.name)) := by
        unfold sD; rw [List.map_map]; rfl
      rw [this]
      exact unlikeL_ok g.tnd k
end
end Dn
-- P07e
/-! k07: drawn patterns are valid; what is none. -/
namespace Dn
open PySem L2
theorem filter_unique {α β : Type} [DecidableEq β] {f : α → β} : ∀ {l : List α} {x : α}, (l.map f).Nodup → x ∈ l → l.filter (fun y => f y == f x) = [x]
  | [], _, _, h => by cases h
  | y :: l, x, nd, h => by
    rw [List.map_cons, List.nodup_cons] at nd
    rw [List.filter_cons]
    rcases List.mem_cons.mp h with rfl | h
    · rw [if_pos (by simp)]
      congr 1
      rw [List.filter_eq_nil_iff]
      intro z hz
      simp only [beq_iff_eq]
      intro e
      exact nd.1 (e ▸ List.mem_map_of_mem hz)
    · have : (f y == f x) = false := by
        simp only [beq_eq_false_iff_ne]
        intro e
        exact nd.1 (e ▸ List.mem_map_of_mem h)
      rw [this, if_neg (by simp)]
      exact filter_unique nd.2 h
def tupOf (d : D) : List D := match d with
  | .tup ds => ds
  | _ => []
def partD (i : Nat) (d : D) : D := ((tupOf d)[i]?).getD .non
def nameIs (x : Str) (d : D) : Bool := match partD 0 d with
  | .str y => y == x
  | _ => false
section
variable {R M : Mem} {ρ : Rho} {Q : D → Mem → Prop}
theorem found_tie {K : Kinds} {tk : TieK} (g : GoodK K) (h : tk ∈ K.ties) : (K.ties.map encTK).filter (nameIs tk.name) = [encTK tk] := by
  rw [List.filter_map]
  have : (K.ties.filter (nameIs tk.name ∘ encTK)) = [tk] := filter_unique (f := fun t : TieK => t.name) g.tnd h
  rw [this]; rfl
theorem endsOf_ok {K : Kinds} {tk : TieK} (g : GoodK K) (h : tk ∈ K.ties) (k : Q (.tup (sD tk.ends)) M) : Fn.Ok G_ends_of [encK K, .str tk.name] M Q := by
  unfold G_ends_of F_ends_of
  simp [startR]
  refine comp_pureE (nameIs tk.name) (partD 1) ?_
  simp
  refine ⟨fun t ht => ?_, ?_⟩
  · simp [wipeR, bindP, bindPs, nameIs, partD, tupOf]
    by_cases q : t.name = tk.name <;> simp [q]
  · rw [found_tie g h]
    simp [partD, tupOf]
    exact .inr ⟨⟨tk, h, by simp [nameIs, partD, tupOf]⟩, k⟩
theorem sizeOf_ok {K : Kinds} {tk : TieK} (g : GoodK K) (h : tk ∈ K.ties) (k : Q (.int tk.size) M) : Fn.Ok G_size_of [encK K, .str tk.name] M Q := by
  unfold G_size_of F_size_of
  simp [startR]
  refine comp_pureE (nameIs tk.name) (partD 2) ?_
  simp
  refine ⟨fun t ht => ?_, ?_⟩
  · simp [wipeR, bindP, bindPs, nameIs, partD, tupOf]
    by_cases q : t.name = tk.name <;> simp [q]
  · rw [found_tie g h]
    simp [partD, tupOf]
    exact .inr ⟨⟨tk, h, by simp [nameIs, partD, tupOf]⟩, k⟩
theorem tieOver_ok {K : Kinds} {ps : List Str} {t : TieP} (g : GoodK K) (gt : GoodTP K ps t) (k : Q (.bl true) M) : Fn.Ok G_is_tie_over [encK K, .tup (sD ps), encTP t] M Q := by
  unfold G_is_tie_over F_is_tie_over
  obtain ⟨tk, h, hn, v0, v1, hl, he⟩ := gt.tk
  simp [startR]
  rw [← hn]
  refine endsOf_ok g h ?_
  simp
  refine sizeOf_ok g h ?_
  simp
  refine whole_ok ?_
  have e1 : decide (0 ≤ t.value ∧ t.value ≤ tk.size - 1) = true := by simp; omega
  rw [e1]
  have e2 : (sD tk.ends).length = t.ends.length := by unfold sD; rw [List.length_map]; exact hl.symm
  simp [e2]
  refine comp_pureE (fun _ => true) (fun _ => .bl true) ?_
  simp
  refine ⟨fun e hx => ?_, ?_⟩
  · simp [wipeR]
    refine whole_ok ?_
    obtain ⟨j, hj⟩ := List.mem_iff_getElem?.mp hx
    obtain ⟨e0, ee⟩ := he j e hj
    have hj2 : j < tk.ends.length := by rw [← hl]; exact (List.getElem?_eq_some_iff.mp hj).1
    rw [List.getElem?_eq_getElem hj2] at ee
    have := (List.getElem?_eq_some_iff.mp ee).1
    have e3 : decide (0 ≤ e ∧ e ≤ ((sD ps).length : Int) - 1) = true := by simp; unfold sD; rw [List.length_map]; omega
    rw [e3]
    simp
  · rw [fAll_true (by simp)]
    simp
    refine comp_pureE (fun _ => true) (fun _ => .bl true) ?_
    simp
    refine ⟨fun d hd => ?_, ?_⟩
    · obtain ⟨j, hj⟩ := List.mem_iff_getElem?.mp hd
      obtain ⟨x, y, hx, hy, rfl⟩ := zipD_get hj
      rw [List.getElem?_map] at hx
      obtain ⟨e, hx2, rfl⟩ := Option.map_eq_some_iff.mp hx
      unfold sD at hy
      rw [List.getElem?_map] at hy
      obtain ⟨s, hy2, rfl⟩ := Option.map_eq_some_iff.mp hy
      obtain ⟨e0, ee⟩ := he j e hx2
      rw [hy2] at ee
      have a : atI (sD ps) e = some (.str s) := by
        rw [atI_nn e0]; unfold sD; rw [List.getElem?_map, ee]; rfl
      simp [wipeR, bindP, bindPs, a]
    · rw [fAll_true (by simp)]
      simpa using k
theorem le_TP (s t : TieP) : gLeA (encTP s) (encTP t) = some (.bl (W.dataLe false pyOf (encTP s) (encTP t))) := by
  have e : gOrd (fun a b => !W.dataLt b a) (encTP s) (encTP t) = some (.bl (!W.dataLt (pyTP t) (pyTP s))) := by
    unfold gOrd
    rw [toPy_TP, toPy_TP]
    simp only []
    rw [if_pos]
    unfold ordOk
    simp only [Bool.and_eq_true, Bool.not_eq_true', decide_eq_true_eq]
    exact ⟨⟨alike_TP s t, rfl⟩, by have := depth_TP s; omega⟩
  have h1 : ∀ t : TieP, pyOf (encTP t) = pyTP t := fun t => by unfold pyOf; rw [toPy_TP]; rfl
  have e2 : gLeA (encTP s) (encTP t) = gOrd (fun a b => !W.dataLt b a) (encTP s) (encTP t) := rfl
  rw [e2, e]
  unfold W.dataLe W.sortLe
  simp only [h1]
  rfl
theorem inOrder_ok {l : List TieP} (asc : (l.map encTP).Pairwise fun a b => W.dataLe false pyOf a b = true) (k : Q (.bl true) M) : Fn.Ok G_are_in_order [.tup (l.map encTP)] M Q := by
  unfold G_are_in_order F_are_in_order
  simp [startR, cut_rest]
  refine comp_pureE (fun _ => true) (fun _ => .bl true) ?_
  simp [cut_rest]
  refine ⟨fun d hd => ?_, ?_⟩
  · obtain ⟨j, hj⟩ := List.mem_iff_getElem?.mp hd
    obtain ⟨x, y, hx, hy, rfl⟩ := zipD_get hj
    rw [List.getElem?_tail] at hy
    have hx0 := hx
    have hy0 := hy
    rw [List.getElem?_map] at hx hy
    obtain ⟨s, hx2, rfl⟩ := Option.map_eq_some_iff.mp hx
    obtain ⟨t, hy2, rfl⟩ := Option.map_eq_some_iff.mp hy
    obtain ⟨i1, g1⟩ := List.getElem?_eq_some_iff.mp hx0
    obtain ⟨i2, g2⟩ := List.getElem?_eq_some_iff.mp hy0
    have := List.pairwise_iff_getElem.mp asc j (j + 1) i1 i2 (by omega)
    rw [g1, g2] at this
    simp [wipeR, bindP, bindPs, le_TP, this]
  · rw [fAll_true (by simp)]
    simpa using k
theorem tiesOver_ok {K : Kinds} {p : Patt} (g : GoodK K) (gp : GoodP K p) (k : Q (.bl true) M) : Fn.Ok G_are_ties_over [encK K, .tup (sD p.places), .tup (p.ties.map encTP)] M Q := by
  unfold G_are_ties_over F_are_ties_over
  have := gp.tfew
  simp [startR]
  refine short_ok (by rw [List.length_map]; omega) ?_
  simp
  refine comp_pureE (fun _ => true) (fun _ => .bl true) ?_
  simp
  refine ⟨fun t ht => ?_, ?_⟩
  · simp [wipeR]
    exact tieOver_ok g (gp.ties t ht) ⟨rfl, rfl⟩
  · rw [fAll_true (by simp)]
    simp
    exact inOrder_ok gp.asc k
theorem patternValue_ok {K : Kinds} {p : Patt} (g : GoodK K) (gp : GoodP K p) (k : Q (.bl true) M) : Fn.Ok G_is_pattern_value [encK K, encP p] M Q := by
  unfold G_is_pattern_value F_is_pattern_value
  have := gp.few
  simp [startR]
  refine short_ok (by unfold sD; rw [List.length_map]; omega) ?_
  simp
  refine comp_pureE (fun _ => true) (fun _ => .bl true) ?_
  simp
  refine ⟨fun d hd => ?_, ?_⟩
  · unfold sD at hd
    obtain ⟨x, hx, rfl⟩ := List.mem_map.mp hd
    have := gp.sub x hx
    simp [wipeR, in_strs, this]
  · rw [fAll_true (by simp)]
    simp
    exact tiesOver_ok g gp k
end
end Dn
-- P07f
/-! k07: the rows of maps. -/
namespace Dn
open PySem L2
def encR (r : List Int) : D := .tup (r.map .int)
def encRs (L : List (List Int)) : List D := L.map encR
def kindIs (x : Str) (d : D) : Bool := match partD 1 d with
  | .str y => y == x
  | _ => false
theorem enum_range (ps : List Str) : enumD (sD ps) = (List.range ps.length).map fun (i : Nat) => D.tup [.int (i : Nat), .str ((ps[i]?).getD ("" : Str))] := by
  apply List.ext_getElem?
  intro i
  unfold enumD sD
  rw [List.getElem?_map, List.getElem?_zipIdx, List.getElem?_map, List.getElem?_map]
  by_cases h : i < ps.length
  · rw [List.getElem?_eq_getElem h, List.getElem?_eq_getElem (by simpa using h)]
    simp [h]
  · rw [List.getElem?_eq_none (by omega), List.getElem?_eq_none (by simpa using h)]; rfl
theorem enum_spots {ps : List Str} {x : Str} : ((enumD (sD ps)).filter (kindIs x)).map (partD 0) = (M7.spots ps x).map intN := by
  rw [enum_range, List.filter_map, List.map_map]
  unfold M7.spots
  have h2 : ∀ i ∈ List.range ps.length, (kindIs x ∘ fun (i : Nat) => D.tup [.int (i : Nat), .str ((ps[i]?).getD ("" : Str))]) i = decide (ps[i]? = some x) := by
    intro i hi
    have hi' := List.mem_range.mp hi
    simp [kindIs, partD, tupOf, hi']
    rw [Bool.eq_iff_iff]; simp
  rw [List.filter_congr h2]
  apply List.map_congr_left
  intro i _
  simp [partD, tupOf, intN]
def intOf (d : D) : Int := match d with
  | .int i => i
  | _ => 0
def intsOf (d : D) : List Int := (tupOf d).map intOf
theorem intsOf_R (r : List Int) : intsOf (encR r) = r := by
  unfold intsOf encR tupOf
  simp only [List.map_map]
  have : (intOf ∘ D.int) = id := by funext i; rfl
  rw [this, List.map_id]
def okN (r : List Int) (d : D) : Bool := match d with
  | .int n => n == -1 || !decide (n ∈ r)
  | _ => false
theorem inner_eq {ps : List Str} {x : Str} (r : List Int) : ((D.int (-1) :: (M7.spots ps x).map intN).filter (okN r)).map (fun d => D.tup (r.map .int ++ [d])) = encRs (M7.ext ps x r) := by
  unfold M7.ext M7.free encRs
  rw [List.filter_cons, if_pos (by simp [okN]), List.map_cons, List.map_cons, List.filter_map, List.map_map, List.map_map]
  congr 1
  · unfold encR; simp
  · have : ∀ i ∈ M7.spots ps x, (okN r ∘ intN) i = decide ((i : Int) ∉ r) := by
      intro i _
      have h1 : ((i : Int) == -1) = false := by simp
      simp [okN, intN, h1]
    rw [List.filter_congr this]
    apply List.map_congr_left
    intro i _
    simp [encR, intN]
section
variable {R M : Mem} {ρ : Rho} {Q : D → Mem → Prop}
theorem comp2_pure {vs vs1 : List Nat} {S S2 : E (List D)} {pt pt2 : Pt} {C C2 : E Bool} {T : E D} {Q : List D → Rho → Mem → Prop} (p : D → Bool) (g : D → List D)
    (h : (S ρ M).Ok fun ds ρ M => (∀ d, d ∈ ds → ∃ ρ1, bindP pt d (wipeR ρ vs) = some ρ1 ∧ (C ρ1 M).Ok fun b ρ2 M2 => (b = p d ∧ M2 = M) ∧ if p d = true then ((eBind S2 fun es => compGo vs1 pt2 C2 T es) ρ2 M2).Ok fun x ρ3 M3 => wipeR ρ3 vs = wipeR ρ vs ∧ x = g d ∧ M3 = M else wipeR ρ2 vs = wipeR ρ vs) ∧
      ((ds.filter p).map g).flatten.length ≤ sizeLine ∧ Q ((ds.filter p).map g).flatten ρ M) : (eComp2 vs S pt C vs1 S2 pt2 C2 T ρ M).Ok Q := by
  unfold eComp2
  rw [Ok_eBind]
  refine h.mono fun ds ρ M ⟨hs, hz, he⟩ => ?_
  rw [Ok_bind, Ok_noExc]
  refine compGo_pure p g rfl hs fun ρ' hw => ?_
  rw [if_pos hz, Ok_ok, back_eq hw]
  exact he
theorem nin_ints {n : Int} {r : List Int} : gNin (.int n) (.tup (r.map .int)) = some (.bl (!decide (n ∈ r))) := by
  have e : gInS true (.int n) (.tup (r.map .int)) = some (.bl (!decide (n ∈ r))) := by
    unfold gInS
    rw [toPy_int, toPy_tup (toPys_ints r)]
    simp only []
    have := depth_ints r
    rw [if_pos (by simp [PyData.depth])]
    simp only [if_true, List.any_map, Option.some.injEq, D.bl.injEq]
    congr 1
    rw [Bool.eq_iff_iff]
    simp [PyData.eqv]
  unfold gNin orG
  rw [e]
theorem encRs_length (L : List (List Int)) : (encRs L).length = L.length := by unfold encRs; rw [List.length_map]
theorem mapsOf_ok {ps os : List Str} (h1 : ps.length ≤ 4) (h2 : os.length ≤ 4) (k : Q (.lst (encRs (M7.rowsOf ps os))) M) : Fn.Ok G_maps_of [.tup (sD ps), .tup (sD os)] M Q := by
  unfold G_maps_of F_maps_of
  simp [startR]
  refine for_ok (fun i ρ M' => M' = M ∧ ∃ s3 s4 s5 s6 s7, ρ = [.val (.tup (sD ps)), .val (.tup (sD os)), .val (.lst (encRs (M7.rowsOf ps (os.take i)))), s3, s4, s5, s6, s7]) ⟨rfl, _, _, _, _, _, rfl⟩ (fun i d ρ M' hd ⟨eM, s3, s4, s5, s6, s7, e⟩ => ?_) fun ρ M' ⟨eM, s3, s4, s5, s6, s7, e⟩ => ?_
  · subst e eM
    unfold sD at hd
    rw [List.getElem?_map] at hd
    obtain ⟨x, hx, rfl⟩ := Option.map_eq_some_iff.mp hd
    simp
    refine comp_pureE (kindIs x) (partD 0) ?_
    simp
    refine ⟨fun d hd => ?_, ?_⟩
    · rw [enum_range] at hd
      obtain ⟨j, hj, rfl⟩ := List.mem_map.mp hd
      simp [wipeR, bindP, bindPs, kindIs, partD, tupOf]
      by_cases q : ps[j]?.getD ("" : Str) = x <;> simp [q]
    · have sl : (M7.spots ps x).length ≤ ps.length := by rw [M7.spots_length]; exact List.count_le_length
      have eL := congrArg List.length (enum_spots (ps := ps) (x := x))
      rw [List.length_map, List.length_map] at eL
      rw [enum_spots, eL]
      refine ⟨by omega, ?_⟩
      have eR : M7.rowsOf ps (os.take (i + 1)) = M7.stepR ps (M7.rowsOf ps (os.take i)) x := by rw [take_snoc hx, M7.rows_snoc]
      have few : (M7.rowsOf ps (os.take (i + 1))).length ≤ 625 := M7.few_rows h1 (by rw [List.length_take]; omega)
      have eF : ((encRs (M7.rowsOf ps (os.take i))).map fun d => encRs (M7.ext ps x (intsOf d))).flatten = encRs (M7.rowsOf ps (os.take (i + 1))) := by
        rw [eR]
        unfold encRs M7.stepR
        rw [List.map_map, List.map_flatMap, List.flatMap_def]
        congr 1
        apply List.map_congr_left
        intro r _
        show (M7.ext ps x (intsOf (encR r))).map encR = _
        rw [intsOf_R]
      refine comp2_pure (fun _ => true) (fun d => encRs (M7.ext ps x (intsOf d))) ?_
      simp only [Ok_eIter, Ok_eVar, List.getElem?_cons_succ, List.getElem?_cons_zero, List.set_cons_succ, List.set_cons_zero, Option.some.injEq, Sl.val.injEq, exists_eq_left', iterOf_lst, Ok_ok]
      refine ⟨fun d hd => ?_, ?_⟩
      · unfold encRs at hd
        obtain ⟨r, hr, rfl⟩ := List.mem_map.mp hd
        simp [wipeR]
        refine compGo_pure (okN r) (fun d => D.tup (r.map .int ++ [d])) rfl (fun d hd => ?_) fun ρ' hw => ?_
        · have hd' : ∃ n : Int, d = .int n := by
            rcases List.mem_cons.mp hd with h | h
            · exact ⟨_, h⟩
            · obtain ⟨j, _, h⟩ := List.mem_map.mp h
              exact ⟨_, h.symm⟩
          obtain ⟨n, rfl⟩ := hd'
          have lr : r.length ≤ 4 := by rw [M7.rowsOf_len ps _ hr, List.length_take]; omega
          have lr2 : r.length ≤ 16777215 := by omega
          unfold encR
          simp [wipeR, nin_ints, okN]
          by_cases q : n = -1 <;> by_cases q2 : n ∈ r <;> simp [q, q2, lr2]
        · rw [inner_eq, intsOf_R]
          refine ⟨?_, rfl, rfl⟩
          simp [wipeR] at hw
          rw [hw]; rfl
      · rw [List.filter_eq_self.mpr (by simp), eF]
        refine ⟨by rw [encRs_length]; simp; omega, ?_⟩
        simp
  · subst e eM
    unfold sD
    rw [List.length_map, List.take_length]
    simpa using k
theorem toPy_R (r : List Int) : toPy (encR r) = some (.tuple (r.map .int)) := toPy_tup (toPys_ints r)
theorem pyOf_R (r : List Int) : pyOf (encR r) = .tuple (r.map .int) := by unfold pyOf; rw [toPy_R]; rfl
theorem lex_llt : ∀ (a b : List Int), PyProof.Rows.lexLt PyProof.Rows.itemOrd (W.keyToksAll (a.map .int)) (W.keyToksAll (b.map .int)) = M7.llt a b
  | [], [] => by simp [W.keyToksAll, PyProof.Rows.lexLt, M7.llt, PyProof.Rows.itemLt]
  | [], y :: ys => by simp [W.keyToksAll, PyProof.Rows.lexLt, M7.llt, PyProof.Rows.itemLt]
  | x :: xs, [] => by simp [W.keyToksAll, PyProof.Rows.lexLt, M7.llt, PyProof.Rows.itemLt]
  | x :: xs, y :: ys => by
    have ih := lex_llt xs ys
    simp [W.keyToksAll, W.keyToks, PyProof.Rows.lexLt, M7.llt, PyProof.Rows.itemLt, ih]
    rw [Bool.eq_iff_iff]
    simp
    constructor
    · rintro (h | ⟨h1, h2⟩)
      · exact .inl h
      · by_cases q : x < y
        · exact .inl q
        · exact .inr ⟨by omega, h2⟩
    · rintro (h | ⟨h1, h2⟩)
      · exact .inl h
      · exact .inr ⟨by omega, h2⟩
theorem le_R {a b : List Int} (h : M7.llt a b = true) : W.dataLe false pyOf (encR a) (encR b) = true := by
  unfold W.dataLe W.sortLe
  simp only [pyOf_R, cond_false, W.keyToks]
  show (!PyProof.Rows.lexLt PyProof.Rows.itemOrd (W.keyToksAll (b.map .int)) (W.keyToksAll (a.map .int))) = true
  rw [lex_llt, M7.llt_asymm h]; rfl
theorem rows_sorted {ps os : List Str} : sortD (encRs (M7.rowsOf ps os)) = some (encRs (M7.rowsOf ps os)) := by
  have asc : (encRs (M7.rowsOf ps os)).Pairwise fun a b => W.dataLe false pyOf a b = true := by
    unfold encRs
    rw [List.pairwise_map]
    exact (M7.rowsOf_asc ps os).imp fun h => le_R h
  unfold sortD
  by_cases hl : (encRs (M7.rowsOf ps os)).length ≤ 1
  · rw [if_pos hl]
  · rw [if_neg hl, show toPys (encRs (M7.rowsOf ps os)) = some ((M7.rowsOf ps os).map fun r => .tuple (r.map .int)) from toPys_all fun r _ => toPy_R r]
    simp only []
    have ne : os ≠ [] := by rintro rfl; exact hl (by rw [encRs_length]; simp [M7.rowsOf])
    rw [if_pos, List.mergeSort_of_pairwise asc]
    unfold sortsOk
    simp only [Bool.and_eq_true, Bool.or_eq_true, List.all_eq_true, List.mem_map, decide_eq_true_eq]
    refine ⟨⟨?_, .inl ?_⟩, ?_⟩
    · rintro _ ⟨a, _, rfl⟩ _ ⟨b, _, rfl⟩
      simp only [W.alike]; exact alike_ints a b
    · rintro _ ⟨a, ha, rfl⟩
      have := M7.rowsOf_len ps os ha
      cases a with
      | nil => exact absurd (List.length_eq_zero_iff.mp this.symm) ne
      | cons x a => rfl
    · rintro _ ⟨a, _, rfl⟩
      have := depth_ints a
      simp [PyData.depth]; omega
def ninN (r : List Int) (d : D) : Bool := match d with
  | .int n => !decide (n ∈ r)
  | _ => false
theorem enum_free {ps : List Str} {x : Str} {r : List Int} : ((enumD (sD ps)).filter fun d => kindIs x d && ninN r (partD 0 d)).map (partD 0) = (M7.free ps r x).map intN := by
  have h1 : (enumD (sD ps)).filter (fun d => kindIs x d && ninN r (partD 0 d)) = ((enumD (sD ps)).filter (kindIs x)).filter (ninN r ∘ partD 0) := by
    rw [List.filter_filter]
    apply List.filter_congr
    intro d _
    rw [Bool.and_comm]; rfl
  rw [h1, ← List.filter_map, enum_spots, List.filter_map]
  unfold M7.free
  congr 1
  apply List.filter_congr
  intro i _
  simp [ninN, intN]
theorem gAdd_tup {a b : List D} (h : a.length + b.length ≤ 16777216) : gAdd (.tup a) (.tup b) = some (.tup (a ++ b)) := by
  show gCat (.tup a) (.tup b) = _
  exact if_pos h
theorem ext_rows {ps : List Str} {x : Str} (r : List Int) : (D.int (-1) :: (M7.free ps r x).map intN).map (fun d => D.tup (r.map .int ++ [d])) = encRs (M7.ext ps x r) := by
  unfold M7.ext encRs
  simp [encR, intN]
theorem lawMaps_ok {one other : Patt} (h1 : one.places.length ≤ 4) (h2 : other.places.length ≤ 4) (k : Q (.tup (encRs (M7.rowsOf one.places other.places))) M) : Fn.Ok G__law_maps [encP one, encP other] M Q := by
  unfold G__law_maps F__law_maps
  obtain ⟨ps, t1⟩ := one
  obtain ⟨os, t2⟩ := other
  simp only at h1 h2 k
  simp [startR]
  refine for_ok (fun i ρ M' => M' = M ∧ ∃ s3 s4 s5 s6 s7 s8, ρ = [.val (encP ⟨ps, t1⟩), .val (encP ⟨os, t2⟩), .val (.lst (encRs (M7.rowsOf ps (os.take i)))), s3, s4, s5, s6, s7, s8]) ⟨rfl, _, _, _, _, _, _, rfl⟩ (fun i d ρ M' hd ⟨eM, s3, s4, s5, s6, s7, s8, e⟩ => ?_) fun ρ M' ⟨eM, s3, s4, s5, s6, s7, s8, e⟩ => ?_
  · subst e eM
    unfold sD at hd
    rw [List.getElem?_map] at hd
    obtain ⟨x, hx, rfl⟩ := Option.map_eq_some_iff.mp hd
    have eR : M7.rowsOf ps (os.take (i + 1)) = M7.stepR ps (M7.rowsOf ps (os.take i)) x := by rw [take_snoc hx, M7.rows_snoc]
    have few : (M7.rowsOf ps (os.take (i + 1))).length ≤ 625 := M7.few_rows h1 (by rw [List.length_take]; omega)
    simp
    refine for_ok (fun j ρ M2 => M2 = M' ∧ ∃ s5 s6 s7 s8, ρ = [.val (encP ⟨ps, t1⟩), .val (encP ⟨os, t2⟩), .val (.lst (encRs (M7.rowsOf ps (os.take i)))), .val (.str x), .own (.lst (encRs (((M7.rowsOf ps (os.take i)).take j).flatMap (M7.ext ps x)))), s5, s6, s7, s8]) ⟨rfl, _, _, _, _, rfl⟩ (fun j d ρ M2 hd ⟨eM, s5, s6, s7, s8, e⟩ => ?_) fun ρ M2 ⟨eM, s5, s6, s7, s8, e⟩ => ?_
    · subst e eM
      unfold encRs at hd
      rw [List.getElem?_map] at hd
      obtain ⟨r, hr, rfl⟩ := Option.map_eq_some_iff.mp hd
      simp
      refine comp_pureE (fun d => kindIs x d && ninN r (partD 0 d)) (partD 0) ?_
      simp only [Ok_eBind, Ok_eCons, Ok_eOp, Ok_eVar, Ok_eOk, Ok_eNil, List.getElem?_cons_succ, List.getElem?_cons_zero, Option.some.injEq, Sl.val.injEq, exists_eq_left', gIx_tup, atI_0, enumOf_tup, Ok_ok]
      have lr : r.length ≤ 4 := by rw [M7.rowsOf_len ps _ (List.mem_of_getElem? hr), List.length_take]; omega
      refine ⟨fun d hd => ?_, ?_⟩
      · rw [enum_range] at hd
        obtain ⟨n, hn, rfl⟩ := List.mem_map.mp hd
        unfold encR
        simp [wipeR, bindP, bindPs, kindIs, partD, tupOf, ninN, nin_ints]
        by_cases q : ps[n]?.getD ("" : Str) = x <;> by_cases q2 : (n : Int) ∈ r <;> simp [q, q2]
      · rw [enum_free]
        have fl : (M7.free ps r x).length ≤ 4 := by
          have h5 : (M7.free ps r x).length ≤ (M7.spots ps x).length := List.length_filter_le _ _
          have h6 : (M7.spots ps x).length ≤ ps.length := by rw [M7.spots_length]; exact List.count_le_length
          omega
        simp [ownL]
        refine comp_pureE (fun _ => true) (fun d => D.tup (r.map .int ++ [d])) ?_
        have fl2 : 1 + (M7.free ps r x).length ≤ 16777216 := by omega
        simp [fl2]
        have ga : ∀ d : D, gAdd (encR r) (.tup [d]) = some (.tup (r.map .int ++ [d])) := fun d => gAdd_tup (by simp; omega)
        simp [wipeR, ga]
        have e2 : encRs (List.flatMap (M7.ext ps x) (List.take (j + 1) (M7.rowsOf ps (List.take i os)))) = encRs (List.flatMap (M7.ext ps x) (List.take j (M7.rowsOf ps (List.take i os)))) ++ encRs (M7.ext ps x r) := by
          rw [take_snoc hr, List.flatMap_append]
          simp [encRs]
        have e3 : (List.flatMap (M7.ext ps x) (List.take (j + 1) (M7.rowsOf ps (List.take i os)))).length ≤ 625 := by
          refine Nat.le_trans ?_ few
          rw [eR]
          unfold M7.stepR
          conv => rhs; rw [← List.take_append_drop (j + 1) (M7.rowsOf ps (List.take i os)), List.flatMap_append, List.length_append]
          omega
        have e4 := congrArg List.length e2
        rw [encRs_length, List.length_append, ← ext_rows] at e4
        simp only [List.length_cons, List.length_map] at e4
        rw [List.filter_eq_self.mpr (by simp), e2, ← ext_rows]
        refine ⟨by rw [List.length_map]; omega, by simp⟩
    · subst e eM
      unfold encRs
      rw [List.length_map, List.take_length]
      simp [eR, M7.stepR, encRs]
  · subst e eM
    unfold sD
    rw [List.length_map, List.take_length]
    simp [rows_sorted]
    exact k
end
end Dn
-- P07g
/-! k07: images, maps, their number, likeness. -/
namespace Dn
open PySem L2
def img : List Int → Int → List Int
  | [], _ => []
  | n :: r, k => (if n = -1 then k else n) :: img r (if n = -1 then k + 1 else k)
section
variable {R M : Mem} {ρ : Rho} {Q : D → Mem → Prop}
theorem drop_get {α : Type} {l : List α} {i : Nat} {x : α} (h : l[i]? = some x) : l.drop i = x :: l.drop (i + 1) := by
  obtain ⟨hi, e⟩ := List.getElem?_eq_some_iff.mp h
  rw [List.drop_eq_getElem_cons hi, e]
theorem imagesOf_ok {one other : Patt} {r : List Int} (hl : r.length ≤ 1000) (k : Q (encR (img r one.places.length)) M) : Fn.Ok G_images_of [encP one, encP other, encR r] M Q := by
  unfold G_images_of F_images_of encR
  simp [startR, setIs]
  refine for_ok (fun i ρ M' => M' = M ∧ ∃ (F : List Int) (c : Int) (s5 : Sl), ρ = [.val (encP one), .val (encP other), .val (.tup (r.map .int)), .own (.lst (F.map .int)), .val (.int c), s5] ∧ F.length = i ∧ F ++ img (r.drop i) c = img r one.places.length) ⟨rfl, [], _, _, by unfold sD; rw [List.length_map]; rfl, rfl, rfl⟩ (fun i d ρ M' hd ⟨eM, F, c, s5, e, hF, hi⟩ => ?_) fun ρ M' ⟨eM, F, c, s5, e, hF, hi⟩ => ?_
  · subst e eM
    rw [List.getElem?_map] at hd
    obtain ⟨n, hn, rfl⟩ := Option.map_eq_some_iff.mp hd
    have hlt := (List.getElem?_eq_some_iff.mp hn).1
    rw [drop_get hn] at hi
    have hF2 : F.length < 16777216 := by omega
    simp [ownL]
    by_cases q : n = -1
    · subst q
      simp [hF2]
      refine ⟨F ++ [c], c + 1, ⟨by simp, rfl⟩, by simp [hF], ?_⟩
      rw [← hi]; simp [img]
    · simp [q, hF2]
      refine ⟨F ++ [n], c, ⟨by simp, rfl⟩, by simp [hF], ?_⟩
      rw [← hi]; simp [img, q]
  · subst e eM
    rw [List.length_map, List.drop_length] at hi
    simp [img] at hi
    simp
    rw [hi]
    exact k
theorem lawImage_ok {one other : Patt} {r : List Int} (hl : r.length ≤ 1000) (hr : ∀ n ∈ r, n = -1 ∨ 0 ≤ n) (k : Q (encR (img r one.places.length)) M) : Fn.Ok G__law_image [encP one, encP other, encR r] M Q := by
  unfold G__law_image F__law_image encR
  simp [startR, setIs]
  refine for_ok (fun i ρ M' => M' = M ∧ ∃ (F : List Int) (c : Int) (s5 : Sl), ρ = [.val (encP one), .val (encP other), .val (.tup (r.map .int)), .own (.lst (F.map .int)), .val (.int c), s5] ∧ F.length = i ∧ F ++ img (r.drop i) c = img r one.places.length) ⟨rfl, [], _, _, by unfold sD; rw [List.length_map]; rfl, rfl, rfl⟩ (fun i d ρ M' hd ⟨eM, F, c, s5, e, hF, hi⟩ => ?_) fun ρ M' ⟨eM, F, c, s5, e, hF, hi⟩ => ?_
  · subst e eM
    rw [List.getElem?_map] at hd
    obtain ⟨n, hn, rfl⟩ := Option.map_eq_some_iff.mp hd
    have hlt := (List.getElem?_eq_some_iff.mp hn).1
    rw [drop_get hn] at hi
    have hF2 : F.length < 16777216 := by omega
    simp [ownL]
    rcases hr n (List.mem_of_getElem? hn) with q | q
    · subst q
      simp [hF2]
      refine ⟨F ++ [c], c + 1, ⟨by simp, rfl⟩, by simp [hF], ?_⟩
      rw [← hi]; simp [img]
    · have q1 : ¬ n < 0 := by omega
      have q2 : n ≠ -1 := by omega
      simp [q1, q, hF2]
      refine ⟨F ++ [n], c, ⟨by simp, rfl⟩, by simp [hF], ?_⟩
      rw [← hi]; simp [img, q2]
  · subst e eM
    rw [List.length_map, List.drop_length] at hi
    simp [img] at hi
    simp
    rw [hi]
    exact k
theorem fAll_map (f : D → Bool) (ds : List D) : fAll (ds.map fun d => .bl (f d)) = some (.bl (ds.all f)) := by
  unfold fAll
  have : bools (ds.map fun d => .bl (f d)) = some (ds.map f) := by
    induction ds with
    | nil => rfl
    | cons d ds ih => simp [bools, ih]
  rw [this]
  simp [List.all_map]
/-- what a place of a row may hold -/
def atom (d : D) : Bool := match d with
  | .int _ => true
  | .bl _ => true
  | .non => true
  | .str _ => true
  | _ => false
def inRange (lo hi : Int) (d : D) : Bool := match d with
  | .int n => decide (lo ≤ n ∧ n ≤ hi)
  | _ => false
theorem wholeA_ok {d : D} {lo hi : Int} (h : atom d = true) (k : Q (.bl (inRange lo hi d)) M) : Fn.Ok G_is_whole [d, .int lo, .int hi] M Q := by
  cases d <;> first | (cases h; done) | skip
  · unfold G_is_whole F_is_whole; simp [startR]; exact k
  · unfold G_is_whole F_is_whole; simp [startR]; exact k
  · exact whole_ok k
  · unfold G_is_whole F_is_whole; simp [startR]; exact k
def ne1 (d : D) : Bool := match d with
  | .int n => !(n == -1)
  | _ => false
def fitsAt (ps : List Str) (d : D) : Bool := match partD 0 d, partD 1 d with
  | .int n, .str x => n == -1 || decide (ps[n.toNat]? = some x)
  | _, _ => false
theorem toPys_atoms : ∀ {ds : List D}, (∀ d ∈ ds, atom d = true) → ∃ bs, toPys ds = some bs
  | [], _ => ⟨[], toPys_nil⟩
  | d :: ds, h => by
    obtain ⟨bs, e⟩ := toPys_atoms (ds := ds) fun x hx => h x (.tail _ hx)
    have := h d (.head _)
    cases d <;> first | (cases this; done) | exact ⟨_, toPys_cons (by first | exact toPy_int | exact toPy_str | exact toPy_bl | exact toPy_non) e⟩
theorem all_ints {lo hi : Int} : ∀ {ds : List D}, ds.all (inRange lo hi) = true → ∃ r : List Int, ds = r.map .int ∧ ∀ n ∈ r, lo ≤ n ∧ n ≤ hi
  | [], _ => ⟨[], rfl, by simp⟩
  | d :: ds, h => by
    simp only [List.all_cons, Bool.and_eq_true] at h
    obtain ⟨r, e, hr⟩ := all_ints h.2
    cases d <;> first | (cases h.1; done) | skip
    rename_i n
    have h1 := h.1
    simp only [inRange, decide_eq_true_eq] at h1
    refine ⟨n :: r, by rw [e]; rfl, fun m hm => ?_⟩
    rcases List.mem_cons.mp hm with rfl | hm
    · exact h1
    · exact hr m hm
theorem ok_range {ps os : List Str} {r : List Int} (h : M7.okRow ps os r) : ∀ n ∈ r, -1 ≤ n ∧ n ≤ (ps.length : Int) - 1 := by
  intro n hn
  obtain ⟨j, hj⟩ := List.mem_iff_getElem?.mp hn
  have hj1 := (List.getElem?_eq_some_iff.mp hj).1
  have hj2 : j < os.length := by rw [← h.1]; exact hj1
  have hz : (n, os[j]) ∈ r.zip os := by
    refine List.mem_iff_getElem?.mpr ⟨j, ?_⟩
    rw [List.getElem?_zip_eq_some]
    exact ⟨hj, List.getElem?_eq_getElem hj2⟩
  rcases h.2.2 _ hz with q | ⟨q1, q2⟩
  · simp only at q; omega
  · have := (List.getElem?_eq_some_iff.mp q2).1
    simp only at q1 this; omega
theorem zip_fits {ps os : List Str} {r : List Int} : (zipD (r.map .int) (sD os)).all (fitsAt ps) = true ↔ ∀ p ∈ r.zip os, p.1 = -1 ∨ ps[p.1.toNat]? = some p.2 := by
  have e : zipD (r.map .int) (sD os) = (r.zip os).map fun p => D.tup [.int p.1, .str p.2] := by
    unfold zipD sD
    rw [List.zipWith_map]
    rw [List.zip, List.map_zipWith]
  rw [e, List.all_map, List.all_eq_true]
  constructor <;> intro h p hp
  · have := h p hp
    simpa [fitsAt, partD, tupOf] using this
  · have := h p hp
    simpa [fitsAt, partD, tupOf] using this
/-- is_map of a row of single things -/
theorem isMap_ok {one other : Patt} {ds : List D} (hat : ∀ d ∈ ds, atom d = true) (hd : ds.length ≤ 1000)
    (k : ∀ b : Bool, (b = true ↔ ∃ r, ds = r.map .int ∧ M7.okRow one.places other.places r) → Q (.bl b) M) : Fn.Ok G_is_map [encP one, encP other, .tup ds] M Q := by
  unfold G_is_map F_is_map
  obtain ⟨ps, t1⟩ := one
  obtain ⟨os, t2⟩ := other
  simp only at k
  have lo : (sD os).length = os.length := by unfold sD; rw [List.length_map]
  have lp : (sD ps).length = ps.length := by unfold sD; rw [List.length_map]
  simp [startR, lo, lp]
  by_cases hl : ds.length = os.length
  · have hl' : (ds.length : Int) = os.length := by omega
    refine .inl ⟨hl', ?_⟩
    refine comp_pureE (fun _ => true) (fun d => .bl (inRange (-1) ((ps.length : Int) - 1) d)) ?_
    simp [lp]
    refine ⟨fun d hdm => ?_, ?_⟩
    · simp [wipeR]
      rw [lp]
      exact wholeA_ok (hat d hdm) ⟨rfl, rfl⟩
    · rw [List.filter_eq_self.mpr (by simp), fAll_map]
      simp
      by_cases hr : ds.all (inRange (-1) ((ps.length : Int) - 1)) = true
      · obtain ⟨r, rfl, hrr⟩ := all_ints hr
        have hl2 : r.length = os.length := by simpa using hl
        refine .inr ⟨fun x hx => List.all_eq_true.mp hr x hx, ?_⟩
        have inj : ∀ b : Bool, (b = true ↔ M7.okRow ps os r) → Q (.bl b) M := fun b hb => k b ⟨fun h => ⟨r, rfl, hb.mp h⟩, fun ⟨r', e, ok⟩ => by
          have e2 := congrArg (List.map intOf) e
          rw [List.map_map, List.map_map, show (intOf ∘ D.int) = id from rfl, List.map_id, List.map_id] at e2
          rw [← e2] at ok
          exact hb.mpr ok⟩
        refine comp_pureE ne1 (fun d => d) ?_
        simp
        refine ⟨fun n hn => ?_, ?_⟩
        · simp [wipeR, ne1]
          by_cases q : n = -1 <;> simp [q]
        · have en : (List.filter ne1 (List.map D.int r)) = (r.filter fun n => decide (n ≠ -1)).map .int := by
            rw [List.filter_map]
            congr 1
            apply List.filter_congr
            intro n _
            by_cases q : n = -1 <;> simp [ne1, q]
          rw [en]
          generalize hnz : (r.filter fun n => decide (n ≠ -1)) = nz
          refine dcomp_pure (fun _ => true) (fun d => (keyD d, .bl true)) ?_
          simp
          refine ⟨fun n hn => by simp [wipeR, keyD], ?_⟩
          rw [List.filter_eq_self.mpr (by simp)]
          obtain ⟨l1, l2⟩ := putAll_len ((nz.map D.int).map fun d => (keyD d, D.bl true)) [] [] .nil
          have hk : (([] : List Key) ++ ((nz.map D.int).map fun d => ((keyD d, D.bl true) : Key × D)).map fun p => p.1).Nodup ↔ nz.Nodup := by
            rw [List.nil_append, List.map_map, List.map_map]
            exact ⟨fun h => nodup_of_map h, fun h => nodup_map (f := fun n : Int => (Sum.inl n : Key)) (fun a b e => Sum.inl.inj e) h⟩
          rw [hk] at l2
          simp only [List.length_map, List.length_nil, Nat.zero_add] at l1 l2
          by_cases nd : nz.Nodup
          · refine .inl ⟨by have := l2.mpr nd; omega, ?_⟩
            refine comp_pureE (fun _ => true) (fun d => .bl (fitsAt ps d)) ?_
            simp
            refine ⟨fun d hd => ?_, ?_⟩
            · obtain ⟨j, hj⟩ := List.mem_iff_getElem?.mp hd
              obtain ⟨x, y, hx, hy, rfl⟩ := zipD_get hj
              rw [List.getElem?_map] at hx
              obtain ⟨n, hx2, rfl⟩ := Option.map_eq_some_iff.mp hx
              unfold sD at hy
              rw [List.getElem?_map] at hy
              obtain ⟨s, hy2, rfl⟩ := Option.map_eq_some_iff.mp hy
              obtain ⟨n1, n2⟩ := hrr n (List.mem_of_getElem? hx2)
              simp [wipeR, bindP, bindPs, fitsAt, partD, tupOf]
              by_cases q : n = -1
              · simp [q]
              · have hn : n.toNat < ps.length := by omega
                have a : atI (sD ps) n = some (.str ps[n.toNat]) := by
                  rw [atI_nn (by omega)]; unfold sD; rw [List.getElem?_map, List.getElem?_eq_getElem hn]; rfl
                simp [q, a, List.getElem?_eq_getElem hn]
                rw [Bool.eq_iff_iff]; simp
                exact fun h => absurd h q
            · rw [List.filter_eq_self.mpr (by simp), fAll_map]
              simp
              refine inj _ ?_
              rw [zip_fits]
              constructor
              · intro h
                refine ⟨hl2, by rw [hnz]; exact nd, fun p hp => ?_⟩
                rcases h p hp with q | q
                · exact .inl q
                · by_cases q2 : p.1 = -1
                  · exact .inl q2
                  · have hm : p.1 ∈ r := (List.of_mem_zip hp).1
                    have := (hrr p.1 hm).1
                    exact .inr ⟨by omega, q⟩
              · intro h p hp
                exact (h.2.2 p hp).imp id fun h => h.2
          · refine .inr ⟨?_, ?_⟩
            · have : ¬ (putAll ([], []) (List.map (fun d => (keyD d, D.bl true)) (List.map D.int nz))).fst.length = nz.length := fun z => nd (l2.mp z)
              omega
            · refine inj false ⟨fun h => (Bool.false_ne_true h).elim, fun ok => ?_⟩
              exfalso
              have := ok.2.1
              rw [hnz] at this
              exact nd this
      · have hr' : ds.all (inRange (-1) ((ps.length : Int) - 1)) = false := by simpa using hr
        obtain ⟨x, hx, hx2⟩ := List.all_eq_false.mp hr'
        refine .inl ⟨⟨x, hx, by simpa using hx2⟩, k false ⟨fun h => (Bool.false_ne_true h).elim, fun ⟨r, e, ok⟩ => ?_⟩⟩
        exfalso
        apply hr
        rw [List.all_eq_true]
        intro d hd'
        rw [e] at hd'
        obtain ⟨n, hn, rfl⟩ := List.mem_map.mp hd'
        simp only [inRange, decide_eq_true_eq]
        exact ok_range ok n hn
  · have hl' : ¬ (ds.length : Int) = os.length := by omega
    refine .inr ⟨hl', ?_⟩
    refine k false ⟨fun h => (Bool.false_ne_true h).elim, fun ⟨r, e, ok⟩ => ?_⟩
    rw [e, List.length_map] at hl
    exact absurd ok.1 hl
theorem isMapNo_ok {one other : Patt} {d : D} (h : isiD "tuple" d = some (.bl false)) (k : Q (.bl false) M) : Fn.Ok G_is_map [encP one, encP other, d] M Q := by
  unfold G_is_map F_is_map
  simp [startR, h]
  exact k
/-! ### how many -/
theorem tot_pos : ∀ a, a ≤ 4 → ∀ b, b ≤ 4 → M7.hw a b ≤ 1000 := by decide
theorem mem_addAll : ∀ (xs l : List Str) (x : Str), x ∈ xs.foldl (fun l k => if k ∈ l then l else k :: l) l ↔ x ∈ l ∨ x ∈ xs
  | [], l, x => by simp
  | y :: xs, l, x => by
    rw [List.foldl_cons, mem_addAll xs]
    by_cases h : y ∈ l
    · rw [if_pos h, List.mem_cons]
      constructor
      · rintro (h1 | h1)
        · exact .inl h1
        · exact .inr (.inr h1)
      · rintro (h1 | h1 | h1)
        · exact .inl h1
        · rw [h1]; exact .inl h
        · exact .inr h1
    · rw [if_neg h, List.mem_cons, List.mem_cons]
      constructor
      · rintro ((h1 | h1) | h1)
        · exact .inr (.inl h1)
        · exact .inl h1
        · exact .inr (.inr h1)
      · rintro (h1 | h1 | h1)
        · exact .inl (.inr h1)
        · exact .inl (.inl h1)
        · exact .inr h1
theorem nodup_addAll : ∀ (xs l : List Str), l.Nodup → (xs.foldl (fun l k => if k ∈ l then l else k :: l) l).Nodup
  | [], l, h => h
  | y :: xs, l, h => by
    rw [List.foldl_cons]
    by_cases hy : y ∈ l
    · rw [if_pos hy]; exact nodup_addAll xs l h
    · rw [if_neg hy]; exact nodup_addAll xs _ (List.nodup_cons.mpr ⟨hy, h⟩)
theorem sortS_nodup (xs : List Str) : (sortS (addAll xs)).Nodup := by
  unfold sortS
  exact (List.mergeSort_perm _ _).nodup_iff.mpr (nodup_addAll xs [] .nil)
theorem mem_sortS (xs : List Str) (x : Str) : x ∈ sortS (addAll xs) ↔ x ∈ xs := by
  unfold sortS
  rw [(List.mergeSort_perm _ _).mem_iff]
  unfold addAll
  rw [mem_addAll]
  simp
theorem strsD_sD : ∀ xs : List Str, strsD (sD xs) = some xs
  | [] => rfl
  | x :: xs => by
    have := strsD_sD xs
    unfold sD at this ⊢
    simp [strsD, this]
theorem sD_append (a b : List Str) : sD a ++ sD b = sD (a ++ b) := by unfold sD; rw [List.map_append]
@[simp] theorem Ok_eSortSet {F : E D} {Q : List D → Rho → Mem → Prop} : (eSortSet F ρ M).Ok Q ↔ (F ρ M).Ok fun d ρ M => ∃ ds xs, d = .tup ds ∧ strsD ds = some xs ∧ xs.length ≤ 1000 ∧ Q ((sortS (addAll xs)).map .str) ρ M := by
  unfold eSortSet
  rw [Ok_eBind]
  constructor <;> intro h <;> refine h.mono fun d ρ M q => ?_
  · cases d <;> first | exact (Ok_stuck.mp q).elim | skip
    rename_i ds
    cases e : strsD ds with
    | none => simp only [e] at q; exact (Ok_stuck.mp q).elim
    | some xs =>
      simp only [e] at q
      by_cases hl : xs.length ≤ 1000
      · rw [if_pos hl] at q; exact ⟨ds, xs, rfl, e, hl, Ok_ok.mp q⟩
      · rw [if_neg hl] at q; exact (Ok_stuck.mp q).elim
  · obtain ⟨ds, xs, rfl, e, hl, q⟩ := q
    simp only [e]
    rw [if_pos hl]
    exact Ok_ok.mpr q
def strIs (x : Str) (d : D) : Bool := match d with
  | .str y => y == x
  | _ => false
theorem count_filter (xs : List Str) (x : Str) : ((sD xs).filter (strIs x)).length = xs.count x := by
  unfold sD
  rw [List.filter_map, List.length_map, List.count, List.countP_eq_length_filter]
  rfl
theorem prod_snoc (f : Str → Nat) (l : List Str) (x : Str) : M7.prodL f (l ++ [x]) = M7.prodL f l * f x := by
  unfold M7.prodL
  rw [List.map_append, List.foldl_append]; rfl
theorem lawMany_ok {one other : Patt} (h1 : one.places.length ≤ 4) (h2 : other.places.length ≤ 4) (k : Q (.int (M7.rowsOf one.places other.places).length) M) : Fn.Ok G__law_many [encP one, encP other] M Q := by
  unfold G__law_many F__law_many
  obtain ⟨ps, t1⟩ := one
  obtain ⟨os, t2⟩ := other
  simp only at h1 h2 k
  have ga : gAdd (.tup (sD ps)) (.tup (sD os)) = some (.tup (sD (ps ++ os))) := by
    rw [← sD_append]; exact gAdd_tup (by unfold sD; simp; omega)
  simp [startR, ga, strsD_sD]
  refine ⟨by omega, ?_⟩
  rw [M7.rows_count ps os (sortS (addAll (ps ++ os))) (sortS_nodup _) (fun x hx => (mem_sortS _ x).mpr (List.mem_append_right _ hx))] at k
  generalize sortS (addAll (ps ++ os)) = S at k
  refine for_ok (fun i ρ M' => M' = M ∧ ∃ s3 s4 s5 s6 s7 s8 s9, ρ = [.val (encP ⟨ps, t1⟩), .val (encP ⟨os, t2⟩), .val (.int (M7.prodL (fun k => M7.hw (ps.count k) (os.count k)) (S.take i) : Nat)), s3, s4, s5, s6, s7, s8, s9]) ⟨rfl, _, _, _, _, _, _, _, rfl⟩ (fun i d ρ M' hd ⟨eM, s3, s4, s5, s6, s7, s8, s9, e⟩ => ?_) fun ρ M' ⟨eM, s3, s4, s5, s6, s7, s8, s9, e⟩ => ?_
  · subst e eM
    rw [List.getElem?_map] at hd
    obtain ⟨x, hx, rfl⟩ := Option.map_eq_some_iff.mp hd
    simp
    refine comp_pureE (strIs x) (fun d => d) ?_
    simp
    refine ⟨fun d hd => ?_, ?_⟩
    · unfold sD at hd
      obtain ⟨y, hy, rfl⟩ := List.mem_map.mp hd
      simp [wipeR, strIs]
      by_cases q : y = x <;> simp [q]
    · refine comp_pureE (strIs x) (fun d => d) ?_
      simp
      refine ⟨fun d hd => ?_, ?_⟩
      · unfold sD at hd
        obtain ⟨y, hy, rfl⟩ := List.mem_map.mp hd
        simp [wipeR, strIs]
        by_cases q : y = x <;> simp [q]
      · have ca : ps.count x ≤ 4 := Nat.le_trans List.count_le_length h1
        have cb : os.count x ≤ 4 := Nat.le_trans List.count_le_length h2
        simp only [count_filter]
        generalize ha : ps.count x = a at ca
        generalize hb : os.count x = b at cb
        have mn : (if b < a then (b : Int) else (a : Int)) = ((min a b : Nat) : Int) := by
          by_cases q : b < a
          · rw [if_pos q]; omega
          · rw [if_neg q]; omega
        simp [setIs]
        rw [mn]
        refine ⟨_, range1_ok (by omega), ?_⟩
        have pq : M7.prodL (fun k => M7.hw (ps.count k) (os.count k)) (S.take (i + 1)) = M7.prodL (fun k => M7.hw (ps.count k) (os.count k)) (S.take i) * M7.hw a b := by
          rw [take_snoc hx, prod_snoc, ha, hb]
        refine for_ok (fun j ρ M2 => M2 = M' ∧ ∃ s6 s9, ρ = [.val (encP ⟨ps, t1⟩), .val (encP ⟨os, t2⟩), .val (.int (M7.prodL (fun k => M7.hw (ps.count k) (os.count k)) (S.take i) : Nat)), .val (.str x), .val (.int (a : Nat)), .val (.int (b : Nat)), s6, .val (.int ((M7.tot a b j).1 : Nat)), .val (.int ((M7.tot a b j).2 : Nat)), s9]) ⟨rfl, _, _, rfl⟩ (fun j d ρ M2 hd ⟨eM, s6, s9, e⟩ => ?_) fun ρ M2 ⟨eM, s6, s9, e⟩ => ?_
        · subst e eM
          have hj := (List.getElem?_eq_some_iff.mp hd).1
          rw [rangeD_len] at hj
          have := rangeD_get hd
          subst this
          have w1 : ∀ z : Int, gMulI (.int z) (.int ((a : Int) - j)) = some (.int (z * ((a : Int) - j))) := fun z => gMul_r (by omega) (by omega)
          have w2 : ∀ z : Int, gMulI (.int z) (.int ((b : Int) - j)) = some (.int (z * ((b : Int) - j))) := fun z => gMul_r (by omega) (by omega)
          have w3 : ∀ z : Int, gFdiv (.int z) (.int ((j : Int) + 1)) = some (.int (z.fdiv ((j : Int) + 1))) := fun z => gFdiv_ok (by omega) (by omega)
          have w4 : (((M7.tot a b j).1 : Int) * ((a : Int) - j) * ((b : Int) - j)).fdiv ((j : Int) + 1) = (((M7.tot a b j).1 * (a - j) * (b - j) / (j + 1) : Nat) : Int) := by
            rw [show ((a : Int) - j) = ((a - j : Nat) : Int) by omega, show ((b : Int) - j) = ((b - j : Nat) : Int) by omega, show ((j : Int) + 1) = ((j + 1 : Nat) : Int) by omega, ← Int.natCast_mul, ← Int.natCast_mul]
            rw [Int.fdiv_eq_ediv_of_nonneg _ (by omega)]
            rfl
          simp [w1, w2, w3, w4]
          simp [M7.tot]
        · subst e eM
          rw [rangeD_len]
          have ht := M7.tot_hw a (by omega) b (by omega)
          have hp := tot_pos a ca b cb
          have w5 : ∀ z : Int, gMulI (.int z) (.int ((M7.hw a b : Nat) : Int)) = some (.int (z * ((M7.hw a b : Nat) : Int))) := fun z => gMul_r (by omega) (by omega)
          simp [ht, w5, pq]
  · subst e eM
    rw [List.length_map, List.take_length]
    simpa using k
end
end Dn
-- P07h
/-! k07: likeness; maps, images; what is refused. -/
namespace Dn
open PySem L2
mutual
def sz : D → Nat
  | .tup ds => 1 + szs ds
  | .lst ds => 1 + szs ds
  | _ => 1
def szs : List D → Nat
  | [] => 0
  | d :: ds => sz d + szs ds
end
mutual
def pl : D → Bool
  | .non => true
  | .bl _ => true
  | .int _ => true
  | .str _ => true
  | .tup ds => pls ds
  | .lst ds => pls ds
  | _ => false
def pls : List D → Bool
  | [] => true
  | d :: ds => pl d && pls ds
end
def twin (d : D) : D := .tup [d, d]
theorem zip_twin : ∀ ds : List D, zipD ds ds = ds.map twin
  | [] => rfl
  | d :: ds => by
    have := zip_twin ds
    unfold zipD at this ⊢
    rw [List.zipWith_cons_cons, List.map_cons, this]; rfl
theorem szs_append : ∀ a b : List D, szs (a ++ b) = szs a + szs b
  | [], b => by simp [szs]
  | d :: a, b => by simp [szs, szs_append a b, Nat.add_assoc]
theorem pls_append : ∀ a b : List D, pls (a ++ b) = (pls a && pls b)
  | [], b => by simp [pls]
  | d :: a, b => by simp [pls, pls_append a b, Bool.and_assoc]
theorem len_szs : ∀ ds : List D, ds.length ≤ szs ds
  | [] => by simp [szs]
  | d :: ds => by
    have := len_szs ds
    have h1 : 1 ≤ sz d := by cases d <;> simp [sz]
    simp [szs]; omega
section
variable {R M : Mem} {ρ : Rho} {Q : D → Mem → Prop}
theorem gNe_same_bl {b : Bool} : gNe (.bl b) (.bl b) = some (.bl false) := by simp
theorem same_ok {d : D} (h : pl d = true) (hz : sz d < 1000000) (k : Q (.bl true) M) : Fn.Ok G__law_same [d, d] M Q := by
  unfold G__law_same F__law_same
  simp [startR]
  refine while_ok (P := _) (fun m ρ M' => M' = M ∧ ∃ (td : List D) (s3 s4 : Sl), ρ = [.val d, .val d, .own (.lst (td.map twin)), s3, s4] ∧ pls td = true ∧ szs td = m ∧ m < 1000000) fuel__law_same (fun m ρ M' ⟨eM, td, s3, s4, e, hp, hm, hmm⟩ => ?_) (sz d) (by unfold fuel__law_same; omega) ⟨rfl, [d], _, _, rfl, by simp [pls, h], by simp [szs], hz⟩
  subst e eM
  simp
  rcases List.eq_nil_or_concat td with e | ⟨l, x, e⟩
  · subst e
    simp
    exact k
  · rw [List.concat_eq_append] at e
    subst e
    rw [szs_append] at hm
    rw [pls_append, Bool.and_eq_true] at hp
    have hp1 := hp.1
    have hp2 : pl x = true := by have := hp.2; simpa [pls] using this
    have hm1 : szs l + sz x = m := by simpa [szs] using hm
    have hx1 : 1 ≤ sz x := by cases x <;> simp [sz]
    simp
    refine ⟨m - 1, by omega, ?_⟩
    simp [ownL, oPop_snoc, twin, bindP, bindPs]
    have fin1 : sz x = 1 → szs l = m - 1 := fun h => by omega
    cases x with
    | dct ks ds => cases hp2
    | ref i => cases hp2
    | fn n => cases hp2
    | non =>
      simp [gIsN, gIsNotN, isNon]
      exact ⟨l, rfl, hp1, fin1 (by simp [sz]), by omega⟩
    | bl b =>
      simp [gIsN, gIsNotN, isNon]
      exact ⟨l, rfl, hp1, fin1 (by simp [sz]), by omega⟩
    | int n =>
      simp [gIsN, gIsNotN, isNon]
      exact ⟨l, rfl, hp1, fin1 (by simp [sz]), by omega⟩
    | str s =>
      simp [gIsN, gIsNotN, isNon]
      exact ⟨l, rfl, hp1, fin1 (by simp [sz]), by omega⟩
    | tup ds =>
      have h1 : sz (.tup ds) = 1 + szs ds := by simp [sz]
      have h2 := len_szs ds
      have h3 := len_szs l
      have h4 : pls ds = true := by simpa [pl] using hp2
      simp [zip_twin]
      refine ⟨by omega, l ++ ds, by simp, by rw [pls_append, hp1, h4]; rfl, by rw [szs_append]; omega, by omega⟩
    | lst ds =>
      have h1 : sz (.lst ds) = 1 + szs ds := by simp [sz]
      have h2 := len_szs ds
      have h3 := len_szs l
      have h4 : pls ds = true := by simpa [pl] using hp2
      simp [zip_twin]
      refine ⟨by omega, l ++ ds, by simp, by rw [pls_append, hp1, h4]; rfl, by rw [szs_append]; omega, by omega⟩
/-! ### what is refused -/
/-- a def raises -/
def Fn.Exc (G : Fn) (ds : List D) (M : Mem) (n : Str) (t : D) : Prop := ∃ ρ, G ds M = .exc n t ρ M
theorem needKinds_ok {K : Kinds} (g : GoodK K) (k : ∀ x, Q x M) : Fn.Ok G_need_kinds [encK K] M Q := by
  unfold G_need_kinds F_need_kinds
  simp [startR]
  refine kindsValue_ok g ?_
  simp
  exact k _
theorem needPattern_ok {K : Kinds} {p : Patt} (g : GoodK K) (gp : GoodP K p) (k : ∀ x, Q x M) : Fn.Ok G_need_pattern [encK K, encP p] M Q := by
  unfold G_need_pattern F_need_pattern
  simp [startR]
  refine patternValue_ok g gp ?_
  simp
  exact k _
theorem needPatterns_ok {K : Kinds} {p q : Patt} (g : GoodK K) (gp : GoodP K p) (gq : GoodP K q) (k : ∀ x, Q x M) : Fn.Ok G_need_patterns [encK K, encP p, encP q] M Q := by
  unfold G_need_patterns F_need_patterns
  simp [startR]
  refine needKinds_ok g fun _ => ?_
  refine needPattern_ok g gp fun _ => ?_
  refine patternValue_ok g gq ?_
  simp
  exact k _
theorem maps_ok {K : Kinds} {p q : Patt} (g : GoodK K) (gp : GoodP K p) (gq : GoodP K q) (k : Q (.tup (encRs (M7.rowsOf p.places q.places))) M) : Fn.Ok G_maps [encK K, encP p, encP q] M Q := by
  unfold G_maps F_maps
  simp [startR]
  refine needPatterns_ok g gp gq fun _ => ?_
  refine mapsOf_ok gp.few gq.few ?_
  simp
  exact k
theorem row_atoms (r : List Int) : ∀ d ∈ r.map D.int, atom d = true := by
  intro d hd
  obtain ⟨n, _, rfl⟩ := List.mem_map.mp hd
  rfl
theorem needMap_ok {K : Kinds} {p q : Patt} {r : List Int} (g : GoodK K) (gp : GoodP K p) (gq : GoodP K q) (hr : r ∈ M7.rowsOf p.places q.places) (k : ∀ x, Q x M) : Fn.Ok G_need_map [encK K, encP p, encP q, encR r] M Q := by
  unfold G_need_map F_need_map
  have hl := M7.rowsOf_len _ _ hr
  have h4 := gq.few
  simp [startR]
  refine needPatterns_ok g gp gq fun _ => ?_
  refine isMap_ok (row_atoms r) (by rw [List.length_map]; omega) fun b hb => ?_
  have : b = true := hb.mpr ⟨r, rfl, (M7.mem_rows _ rfl).mp hr⟩
  subst this
  simp
  exact k _
theorem images_ok {K : Kinds} {p q : Patt} {r : List Int} (g : GoodK K) (gp : GoodP K p) (gq : GoodP K q) (hr : r ∈ M7.rowsOf p.places q.places) (k : Q (encR (img r p.places.length)) M) : Fn.Ok G_images [encK K, encP p, encP q, encR r] M Q := by
  unfold G_images F_images
  have hl := M7.rowsOf_len _ _ hr
  have h4 := gq.few
  simp [startR]
  refine needMap_ok g gp gq hr fun _ => ?_
  exact imagesOf_ok (by omega) k
/-- kinds that are none -/
def badK (K : Kinds) (d : D) : Prop := d = .non ∨ d = .tup [] ∨ d = .tup [.tup (sD K.places)] ∨ d = .lst [.tup (sD K.places), .tup (K.ties.map encTK)]
def badP (p : Patt) (d : D) : Prop := d = .non ∨ d = .tup [] ∨ d = .tup [.tup (sD p.places)] ∨ d = .lst [.tup (sD p.places), .tup (p.ties.map encTP)] ∨ d = .tup [.tup (sD p.places), .non]
theorem badK_no {K : Kinds} {d : D} (h : badK K d) : Fn.Ok G_is_kinds_value [d] M fun x M' => x = .bl false ∧ M' = M := by
  unfold G_is_kinds_value F_is_kinds_value
  rcases h with rfl | rfl | rfl | rfl <;> simp [startR]
theorem shortN_ok (k : Q (.bl false) M) : Fn.Ok G_is_short [.non] M Q := by
  unfold G_is_short F_is_short
  simp [startR]
  exact k
theorem badP_no {K : Kinds} {p : Patt} {d : D} (g : GoodK K) (gp : GoodP K p) (h : badP p d) : Fn.Ok G_is_pattern_value [encK K, d] M fun x M' => x = .bl false ∧ M' = M := by
  unfold G_is_pattern_value F_is_pattern_value
  have := gp.few
  rcases h with rfl | rfl | rfl | rfl | rfl
  · simp [startR]
  · simp [startR]
  · simp [startR]
  · simp [startR]
  · simp [startR]
    refine short_ok (by unfold sD; rw [List.length_map]; omega) ?_
    simp
    refine comp_pureE (fun _ => true) (fun _ => .bl true) ?_
    simp
    refine ⟨fun d hd => ?_, ?_⟩
    · unfold sD at hd
      obtain ⟨x, hx, rfl⟩ := List.mem_map.mp hd
      have := gp.sub x hx
      simp [wipeR, in_strs, this]
    · rw [fAll_true (by simp)]
      simp
      unfold G_are_ties_over F_are_ties_over
      simp [startR]
      refine shortN_ok ?_
      simp
theorem isOk {G : Fn} {ds : List D} {d : D} (h : Fn.Ok G ds M fun x M' => x = d ∧ M' = M) : ∃ ρ, G ds M = .ok d ρ M := by
  obtain ⟨x, ρ, M', e, rfl, rfl⟩ := h.is
  exact ⟨ρ, e⟩
theorem anyOk {G : Fn} {ds : List D} (h : Fn.Ok G ds M fun _ M' => M' = M) : ∃ x ρ, G ds M = .ok x ρ M := by
  obtain ⟨x, ρ, M', e, rfl⟩ := h.is
  exact ⟨x, ρ, e⟩
theorem needKinds_exc {K : Kinds} {d : D} (h : badK K d) : Fn.Exc G_need_kinds [d] M "BadKinds" d := by
  obtain ⟨ρ, e⟩ := isOk (M := M) (badK_no h)
  refine ⟨[], ?_⟩
  simp [G_need_kinds, F_need_kinds, bodyG, sIf, bNot, eT, eCall, eBind, eCons, eVar, eNil, eOk, startR, R.bind, callG, e, optB, sRaise, R.thn, resG]
end
end Dn
-- P07i
/-! k07: rows that are no maps. -/
namespace Dn
open PySem L2
section
variable {R M : Mem} {ρ : Rho} {Q : D → Mem → Prop}
theorem needPattern_exc {K : Kinds} {p : Patt} {d : D} (g : GoodK K) (gp : GoodP K p) (h : badP p d) : Fn.Exc G_need_pattern [encK K, d] M "BadPattern" d := by
  obtain ⟨ρ, e⟩ := isOk (M := M) (badP_no g gp h)
  refine ⟨[], ?_⟩
  simp [G_need_pattern, F_need_pattern, bodyG, sIf, bNot, eT, eCall, eBind, eCons, eVar, eNil, eOk, startR, R.bind, callG, e, optB, sRaise, R.thn, resG]
theorem needPatterns_exc1 {K : Kinds} {d x y : D} (h : badK K d) : Fn.Exc G_need_patterns [d, x, y] M "BadKinds" d := by
  obtain ⟨ρ, e⟩ := needKinds_exc (M := M) h
  refine ⟨[], ?_⟩
  simp [G_need_patterns, F_need_patterns, bodyG, sSeq, Oc.seq, sDrop, sIf, bNot, eT, eCall, eBind, eCons, eVar, eNil, eOk, startR, R.bind, callG, e, optB, sRaise, R.thn, resG]
theorem needPatterns_exc2 {K : Kinds} {p : Patt} {d y : D} (g : GoodK K) (gp : GoodP K p) (h : badP p d) : Fn.Exc G_need_patterns [encK K, d, y] M "BadPattern" d := by
  obtain ⟨ρ, e⟩ := needPattern_exc (M := M) g gp h
  obtain ⟨x, ρ', e'⟩ := anyOk (M := M) (needKinds_ok g fun _ => rfl)
  refine ⟨[], ?_⟩
  simp [G_need_patterns, F_need_patterns, bodyG, sSeq, Oc.seq, sDrop, sNx, sIf, bNot, eT, eCall, eBind, eCons, eVar, eNil, eOk, startR, R.bind, callG, e, e', optB, sRaise, R.thn, resG]
theorem needPatterns_exc3 {K : Kinds} {p q : Patt} {d : D} (g : GoodK K) (gp : GoodP K p) (gq : GoodP K q) (h : badP q d) : Fn.Exc G_need_patterns [encK K, encP p, d] M "BadPattern" d := by
  obtain ⟨x, ρ', e'⟩ := anyOk (M := M) (needKinds_ok g fun _ => rfl)
  obtain ⟨x2, ρ2, e2⟩ := anyOk (M := M) (needPattern_ok g gp fun _ => rfl)
  obtain ⟨ρ, e⟩ := isOk (M := M) (badP_no g gq h)
  refine ⟨[], ?_⟩
  simp [G_need_patterns, F_need_patterns, bodyG, sSeq, Oc.seq, sDrop, sNx, sIf, bNot, eT, eCall, eBind, eCons, eVar, eNil, eOk, startR, R.bind, callG, e, e', e2, optB, sRaise, R.thn, resG]
theorem maps_exc {a b c d : D} {n : Str} (h : Fn.Exc G_need_patterns [a, b, c] M n d) : Fn.Exc G_maps [a, b, c] M n d := by
  obtain ⟨ρ, e⟩ := h
  refine ⟨[], ?_⟩
  simp [G_maps, F_maps, bodyG, sSeq, Oc.seq, sDrop, sNx, eCall, eBind, eCons, eVar, eNil, eOk, startR, R.bind, callG, e, R.thn, resG]
theorem needMap_exc {a b c x d : D} {n : Str} (h : Fn.Exc G_need_patterns [a, b, c] M n d) : Fn.Exc G_need_map [a, b, c, x] M n d := by
  obtain ⟨ρ, e⟩ := h
  refine ⟨[], ?_⟩
  simp [G_need_map, F_need_map, bodyG, sSeq, Oc.seq, sDrop, sNx, eCall, eBind, eCons, eVar, eNil, eOk, startR, R.bind, callG, e, R.thn, resG]
theorem images_exc {a b c x d : D} {n : Str} (h : Fn.Exc G_need_map [a, b, c, x] M n d) : Fn.Exc G_images [a, b, c, x] M n d := by
  obtain ⟨ρ, e⟩ := h
  refine ⟨[], ?_⟩
  simp [G_images, F_images, bodyG, sSeq, Oc.seq, sDrop, sNx, eCall, eBind, eCons, eVar, eNil, eOk, startR, R.bind, callG, e, R.thn, resG]
/-- what is drawn as no map -/
def noMap (ps os : List Str) (d : D) : Prop := isiD "tuple" d = some (.bl false) ∨ ∃ ds, d = .tup ds ∧ (∀ x ∈ ds, atom x = true) ∧ ds.length ≤ 1000 ∧ ¬ ∃ r, ds = r.map .int ∧ M7.okRow ps os r
theorem needMap_exc2 {K : Kinds} {p q : Patt} {d : D} (g : GoodK K) (gp : GoodP K p) (gq : GoodP K q) (h : noMap p.places q.places d) : Fn.Exc G_need_map [encK K, encP p, encP q, d] M "BadFit" d := by
  obtain ⟨x, ρ', e'⟩ := anyOk (M := M) (needPatterns_ok g gp gq fun _ => rfl)
  have hm : Fn.Ok G_is_map [encP p, encP q, d] M fun x M' => x = .bl false ∧ M' = M := by
    rcases h with h | ⟨ds, rfl, ha, hl, hn⟩
    · exact isMapNo_ok h ⟨rfl, rfl⟩
    · refine isMap_ok ha hl fun b hb => ?_
      cases b with
      | false => exact ⟨rfl, rfl⟩
      | true => exact absurd (hb.mp rfl) hn
  obtain ⟨ρ, e⟩ := isOk hm
  refine ⟨[], ?_⟩
  simp [G_need_map, F_need_map, bodyG, sSeq, Oc.seq, sDrop, sNx, sIf, bNot, eT, eCall, eBind, eCons, eVar, eNil, eOk, startR, R.bind, callG, e, e', optB, sRaise, R.thn, resG]
def whole (d : D) : Bool := match d with
  | .int _ => true
  | _ => false
theorem lawWhole_ok {d : D} (h : atom d = true) (k : Q (.bl (whole d)) M) : Fn.Ok G__law_is_whole [d] M Q := by
  unfold G__law_is_whole F__law_is_whole
  cases d <;> first | (cases h; done) | skip
  all_goals simp [startR]; exact k
theorem whole_ints : ∀ {ds : List D}, (∀ d ∈ ds, whole d = true) → ∃ r : List Int, ds = r.map .int
  | [], _ => ⟨[], rfl⟩
  | d :: ds, h => by
    obtain ⟨r, e⟩ := whole_ints (ds := ds) fun x hx => h x (.tail _ hx)
    have := h d (.head _)
    cases d <;> first | (cases this; done) | skip
    rename_i n
    exact ⟨n :: r, by rw [e]; rfl⟩
theorem eqv_ints : ∀ (a b : List Int), PyData.eqvAll (a.map .int) (b.map .int) = decide (a = b)
  | [], [] => by simp [PyData.eqvAll]
  | [], _ :: _ => by simp [PyData.eqvAll]
  | _ :: _, [] => by simp [PyData.eqvAll]
  | x :: a, y :: b => by
    have := eqv_ints a b
    simp [PyData.eqvAll, PyData.eqv, this]
    rw [Bool.eq_iff_iff]; simp
theorem in_rows {r : List Int} {L : List (List Int)} : gIn (encR r) (.tup (encRs L)) = some (.bl (decide (r ∈ L))) := by
  have e : gInS false (encR r) (.tup (encRs L)) = some (.bl (decide (r ∈ L))) := by
    unfold gInS
    rw [toPy_R, toPy_tup (show toPys (encRs L) = some (L.map fun r => .tuple (r.map .int)) from toPys_all fun r _ => toPy_R r)]
    simp only []
    have := depth_ints r
    rw [if_pos (by simp [PyData.depth]; omega)]
    simp only [Bool.false_eq_true, if_false, List.any_map, Option.some.injEq, D.bl.injEq]
    rw [Bool.eq_iff_iff]
    simp only [List.any_eq_true, Function.comp_def, PyData.eqv, eqv_ints, decide_eq_true_eq, exists_eq_right]
  unfold gIn orG
  rw [e]
theorem lawIsMap_ok {L : List (List Int)} {ds : List D} (ha : ∀ x ∈ ds, atom x = true) (k : ∀ b : Bool, (b = true ↔ ∃ r, ds = r.map .int ∧ r ∈ L) → Q (.bl b) M) : Fn.Ok G__law_is_map [.tup (encRs L), .tup ds] M Q := by
  unfold G__law_is_map F__law_is_map
  simp [startR]
  refine comp_pureE (fun d => !whole d) (fun _ => .int 1) ?_
  simp
  refine ⟨fun d hd => ?_, ?_⟩
  · simp [wipeR]
    refine lawWhole_ok (ha d hd) ?_
    cases whole d <;> simp
  · by_cases h : ∀ d ∈ ds, whole d = true
    · obtain ⟨r, rfl⟩ := whole_ints h
      refine .inl ⟨h, ?_⟩
      have := in_rows (r := r) (L := L)
      unfold encR at this
      rw [this]
      refine ⟨_, rfl, k _ ⟨fun hb => ⟨r, rfl, of_decide_eq_true hb⟩, fun ⟨r', e, hr⟩ => ?_⟩⟩
      have e2 := congrArg (List.map intOf) e
      rw [List.map_map, List.map_map, show (intOf ∘ D.int) = id from rfl, List.map_id, List.map_id] at e2
      rw [e2]; exact decide_eq_true hr
    · refine .inr ⟨?_, ?_⟩
      · have h2 : ¬ ds.all whole = true := fun z => h (List.all_eq_true.mp z)
        have h3 : ds.all whole = false := by simpa using h2
        obtain ⟨x, hx, hx2⟩ := List.all_eq_false.mp h3
        exact ⟨x, hx, by simpa using hx2⟩
      · refine k false ⟨fun hb => (Bool.false_ne_true hb).elim, fun ⟨r, e, _⟩ => ?_⟩
        exfalso
        apply h
        intro d hd
        rw [e] at hd
        obtain ⟨n, _, rfl⟩ := List.mem_map.mp hd
        rfl
theorem lawIsMapNo_ok {x d : D} (h : isiD "tuple" d = some (.bl false)) (k : Q (.bl false) M) : Fn.Ok G__law_is_map [x, d] M Q := by
  unfold G__law_is_map F__law_is_map
  simp [startR, h]
  exact k
end
end Dn
-- P07j
/-! k07: rows drawn as no maps. -/
namespace Dn
open PySem L2
def nnD (d : D) : Bool := match d with
  | .int n => decide (0 ≤ n)
  | _ => false
def cand (d : D) : Prop := (isiD "tuple" d = some (.bl false) ∧ pl d = true ∧ sz d ≤ 5000) ∨ ∃ ds, d = .tup ds ∧ (∀ x ∈ ds, atom x = true) ∧ ds.length ≤ 1000
theorem pl_atoms : ∀ {ds : List D}, (∀ x ∈ ds, atom x = true) → pls ds = true ∧ szs ds = ds.length
  | [], _ => by simp [pls, szs]
  | d :: ds, h => by
    obtain ⟨h1, h2⟩ := pl_atoms (ds := ds) fun x hx => h x (.tail _ hx)
    have := h d (.head _)
    cases d <;> first | (cases this; done) | (simp [pls, szs, pl, sz, h1, h2]; omega)
theorem cand_pl {d : D} (h : cand d) : pl d = true ∧ sz d ≤ 5000 := by
  rcases h with h | ⟨ds, rfl, ha, hl⟩
  · exact h.2
  · obtain ⟨h1, h2⟩ := pl_atoms ha
    simp [pl, sz, h1, h2]; omega
theorem cand_lst {ds : List D} (ha : ∀ x ∈ ds, atom x = true) (hl : ds.length ≤ 1000) : cand (.lst ds) := by
  obtain ⟨h1, h2⟩ := pl_atoms ha
  refine .inl ⟨rfl, ?_, ?_⟩
  · simp [pl, h1]
  · simp [sz, h2]; omega
theorem cand_tup {ds : List D} (ha : ∀ x ∈ ds, atom x = true) (hl : ds.length ≤ 1000) : cand (.tup ds) := .inr ⟨ds, rfl, ha, hl⟩
theorem mem_reps {x y : D} {k : Nat} (h : y ∈ (List.replicate k [x]).flatten) : y = x := by
  rw [List.mem_flatten] at h
  obtain ⟨l, h1, h2⟩ := h
  rw [(List.mem_replicate.mp h1).2] at h2
  exact List.mem_singleton.mp h2
theorem len_reps {x : D} {k : Nat} : (List.replicate k [x]).flatten.length = k := by
  rw [List.length_flatten]; simp
theorem gMulT_1 {x : D} {k : Int} (h : 0 ≤ k) (h2 : k ≤ 1000) : gMulT (.tup [x]) (.int k) = some (.tup (List.replicate k.toNat [x]).flatten) := by
  unfold gMulT
  simp only []
  rw [if_pos ⟨by omega, h2, by simp⟩]
theorem atoms_append {a b : List D} (ha : ∀ x ∈ a, atom x = true) (hb : ∀ x ∈ b, atom x = true) : ∀ x ∈ a ++ b, atom x = true := fun x hx => by
  rcases List.mem_append.mp hx with h | h
  · exact ha x h
  · exact hb x h
theorem atoms_one {d : D} (h : atom d = true) : ∀ x ∈ [d], atom x = true := fun x hx => by rw [List.mem_singleton.mp hx]; exact h
theorem atoms_sub {a b : List D} (h : ∀ x, x ∈ a → x ∈ b) (hb : ∀ x ∈ b, atom x = true) : ∀ x ∈ a, atom x = true := fun x hx => hb x (h x hx)
@[simp] theorem Ok_eRepL {ρ : Rho} {M : Mem} {L : E (List D)} {G : E D} {Q : List D → Rho → Mem → Prop} : (eRepL L G ρ M).Ok Q ↔ (L ρ M).Ok fun xs ρ M => (G ρ M).Ok fun d ρ M => ∃ k, d = .int k ∧ (-1000 ≤ k ∧ k ≤ 1000 ∧ xs.length ≤ 1000) ∧ Q (List.replicate k.toNat xs).flatten ρ M := by
  unfold eRepL
  simp only [Ok_eBind]
  constructor <;> intro h <;> refine h.mono fun xs ρ M q1 => q1.mono fun d ρ M q2 => ?_
  · cases d <;> first | exact (Ok_stuck.mp q2).elim | skip
    rename_i k
    simp only [Ok_iteE] at q2
    split at q2
    · rename_i hk; exact ⟨k, rfl, hk, Ok_ok.mp q2⟩
    · exact (Ok_stuck.mp q2).elim
  · obtain ⟨k, rfl, hk, q⟩ := q2
    simp only [Ok_iteE]
    rw [if_pos hk]
    exact Ok_ok.mpr q
theorem seq_step {ρ : Rho} {M : Mem} {P : Post} {A B : FS} (h : ∀ B', B' = B → (A ρ M).Ok { P with nx := fun ρ M => (B' ρ M).Ok P }) : (sSeq A B ρ M).Ok P := Ok_seq.mpr (h B rfl)
theorem if_step {ρ : Rho} {M : Mem} {P : Post} {T : E Bool} {A B : FS} (h : ∀ A' B', A' = A → B' = B → (T ρ M).Ok fun b ρ M => if b = true then (A' ρ M).Ok P else (B' ρ M).Ok P) : (sIf T A B ρ M).Ok P := Ok_sIf.mpr (h A B rfl rfl)
section
variable {R M : Mem} {Q : D → Mem → Prop}
theorem noMap_pick {ps os : List Str} {L : List (List Int)} (hL : L = M7.rowsOf ps os) {d : D} (h : cand d) (k : noMap ps os d → pl d = true → sz d ≤ 5000 → Q d M) (k2 : Q .non M) :
    Fn.Ok G__law_is_map [.tup (encRs L), d] M fun b M' => ∃ t, truth b = some t ∧ if (!t) = true then Q d M' else Q .non M' := by
  subst hL
  obtain ⟨c1, c2⟩ := cand_pl h
  rcases h with h | ⟨ds, rfl, ha, hl⟩
  · refine lawIsMapNo_ok h.1 ?_
    simp
    exact k (.inl h.1) c1 c2
  · refine lawIsMap_ok ha fun b hb => ?_
    cases b with
    | true => simp; exact k2
    | false =>
      simp
      refine k (.inr ⟨ds, rfl, ha, hl, ?_⟩) c1 c2
      rintro ⟨r, e, ok⟩
      exact Bool.false_ne_true (hb.mpr ⟨r, e, (M7.mem_rows _ rfl).mpr ok⟩)
theorem noMap_ok {one other : Patt} (h1 : one.places.length ≤ 4) (h2 : other.places.length ≤ 4) (I : Deck R M) (k : ∀ d M', noMap one.places other.places d → pl d = true → sz d ≤ 5000 → Deck R M' → Q d M') : Fn.Ok G__law_no_map [.ref 1, encP one, encP other] M Q := by
  unfold G__law_no_map F__law_no_map
  obtain ⟨ps, t1⟩ := one
  obtain ⟨os, t2⟩ := other
  simp only at h1 h2 k
  have lo : (sD os).length = os.length := by unfold sD; rw [List.length_map]
  have lp : (sD ps).length = ps.length := by unfold sD; rw [List.length_map]
  rw [Ok_body]
  refine seq_step fun B1 hB1 => ?_
  simp [startR]
  refine lawMaps_ok h1 h2 ?_
  subst hB1
  refine seq_step fun B2 hB2 => ?_
  have few := M7.few_rows (ps := ps) (os := os) h1 h2
  have hrl : ∀ r, r ∈ M7.rowsOf ps os → r.length = os.length := fun r hr => M7.rowsOf_len ps os hr
  generalize hL : M7.rowsOf ps os = L at few hrl
  have Lne : L ≠ [] := by
    intro z
    have h0 : (List.replicate os.length (-1 : Int)) ∈ M7.rowsOf ps os := by
      rw [M7.mem_rows _ rfl]
      refine ⟨by simp, by simp, fun p hp => .inl ?_⟩
      have := (List.of_mem_zip hp).1
      exact (List.mem_replicate.mp this).2
    rw [hL, z] at h0; cases h0
  have fl : ∀ (k : Nat) (x : D), (List.replicate k [x]).flatten = List.replicate k x := fun k x => by simp
  have m1 : gMulT (.tup [.int (-1)]) (.int ((os.length : Int) + 1)) = some (.tup (List.replicate (os.length + 1) (.int (-1)))) := by
    rw [gMulT_1 (by omega) (by omega), fl]; rfl
  have m2 : gMulT (.tup [.int (-2)]) (.int (os.length : Int)) = some (.tup (List.replicate os.length (.int (-2)))) := by
    rw [gMulT_1 (by omega) (by omega), fl]; rfl
  have m3 : gAdd (.tup (List.replicate os.length (.int (-2)))) (.tup [.int 0]) = some (.tup (List.replicate os.length (.int (-2)) ++ [.int 0])) := gAdd_tup (by simp; omega)
  simp [lo, m1, m2, m3]
  refine pickT_ok ?_ ?_ I fun x M2 hx I2 => ?_
  · unfold encRs; simpa using Lne
  · rw [encRs_length]; omega
  obtain ⟨r, hr, rfl⟩ := List.mem_map.mp hx
  have lr := hrl r hr
  simp [encR, lr]
  refine ⟨by omega, ?_⟩
  subst hB2
  refine seq_step fun B3 hB3 => ?_
  refine if_step fun A4 B4 hA4 hB4 => ?_
  obtain ⟨bs, hb⟩ : ∃ bs, toPys (sD os) = some bs := ⟨_, toPys_sD os⟩
  simp [gNe_nil hb]
  have tail : ∀ (ss : List D) (s5 s6 s7 s8 s9 s10 : Sl) (M' : Mem), (∀ d ∈ ss, cand d) → ss ≠ [] → ss.length < 1000000 → Deck R M' →
      (B3 [.val (.ref 1), .val (encP ⟨ps, t1⟩), .val (encP ⟨os, t2⟩), .val (.tup (encRs L)), .val (.lst ss), s5, s6, s7, s8, s9, s10] M').Ok { nx := fun x M => Q .non M, rt := Q } := by
    intro ss s5 s6 s7 s8 s9 s10 M' hc hne hz I'
    subst hB3
    refine seq_step fun B5 hB5 => ?_
    simp
    refine pickL_ok hne hz I' fun d M5 hd I5 => ?_
    subst hB5
    have hcd := hc d hd
    simp
    refine (noMap_pick (Q := fun d M => Q d M) hL.symm hcd (fun n1 n2 n3 => k d M5 n1 n2 n3 I5) (k .non M5 (.inl rfl) (by simp [pl]) (by simp [sz]) I5)).mono fun b M' ⟨t, ht, h⟩ => ?_
    cases t with
    | false => exact .inl ⟨ht, by simpa using h⟩
    | true => exact .inr ⟨ht, by simpa using h⟩
  have at1 : ∀ x ∈ List.replicate (os.length + 1) (D.int (-1)), atom x = true := fun x hx => by rw [(List.mem_replicate.mp hx).2]; rfl
  have at2 : ∀ x ∈ List.replicate os.length (D.int (-2)) ++ [D.int 0], atom x = true := atoms_append (fun x hx => by rw [(List.mem_replicate.mp hx).2]; rfl) (atoms_one rfl)
  have at3 : ∀ x ∈ List.map D.int r ++ [D.int 0], atom x = true := atoms_append (row_atoms r) (atoms_one rfl)
  have c0 : ∀ d ∈ [D.non, D.int 5, D.lst [], D.tup (List.replicate (os.length + 1) (D.int (-1))), D.tup (List.replicate os.length (D.int (-2)) ++ [D.int 0]), D.lst (List.map D.int r ++ [D.int 0])], cand d := by
    intro d hd
    simp only [List.mem_cons, List.not_mem_nil, or_false] at hd
    rcases hd with h | h | h | h | h | h <;> rw [h]
    · exact .inl ⟨rfl, by simp [pl], by simp [sz]⟩
    · exact .inl ⟨rfl, by simp [pl], by simp [sz]⟩
    · exact .inl ⟨rfl, by simp [pl, pls], by simp [sz, szs]⟩
    · exact cand_tup at1 (by simp; omega)
    · exact cand_tup at2 (by simp; omega)
    · exact cand_lst at3 (by simp; omega)
  by_cases ho : sD os = []
  · refine .inl ⟨ho, ?_⟩
    subst hB4
    simp
    exact tail _ _ _ _ _ _ _ M2 c0 (by simp) (by simp) I2
  · refine .inr ⟨ho, ?_⟩
    subst hA4
    refine seq_step fun B5 hB5 => ?_
    simp
    refine pickT_ok ?_ ?_ I2 fun x M3 hx I3 => ?_
    · unfold encRs; simpa using Lne
    · rw [encRs_length]; omega
    obtain ⟨r2, hr2, rfl⟩ := List.mem_map.mp hx
    have lr2 := hrl r2 hr2
    have os1 : 1 ≤ os.length := by cases h : os with | nil => rw [h] at ho; exact absurd rfl ho | cons _ _ => simp
    subst hB5
    refine seq_step fun B5 hB5 => ?_
    simp [encR]
    refine draw_ok (by omega) (by omega) I3 fun a M4 a0 a1 I4 => ?_
    subst hB5
    refine seq_step fun B5 hB5 => ?_
    simp [lp]
    refine comp_pureE nnD (fun d => d) ?_
    simp
    refine ⟨fun n hn => ?_, ?_⟩
    · simp [wipeR, nnD]
      by_cases q : 0 ≤ n
      · simp [q]
      · simp [q]; omega
    have hf : (List.filter nnD (List.map D.int r2)).length ≤ 4 := by
      have := List.length_filter_le nnD (List.map D.int r2)
      rw [List.length_map] at this; omega
    refine ⟨by omega, ?_⟩
    have hat : ∀ x ∈ D.int (ps.length : Int) :: D.int (-2) :: D.non :: D.bl true :: D.bl false :: D.str (Str.ofString "0") :: D.int ((ps.length : Int) + 3) :: List.filter nnD (List.map D.int r2), atom x = true := by
      intro x hx
      simp only [List.mem_cons] at hx
      rcases hx with h | h | h | h | h | h | h | h
      all_goals first | (rw [h]; rfl) | exact row_atoms r2 x (List.mem_filter.mp h).1
    have hlen : (D.int (ps.length : Int) :: D.int (-2) :: D.non :: D.bl true :: D.bl false :: D.str (Str.ofString "0") :: D.int ((ps.length : Int) + 3) :: List.filter nnD (List.map D.int r2)).length ≤ 11 := by simp only [List.length_cons]; omega
    have hne : (D.int (ps.length : Int) :: D.int (-2) :: D.non :: D.bl true :: D.bl false :: D.str (Str.ofString "0") :: D.int ((ps.length : Int) + 3) :: List.filter nnD (List.map D.int r2)) ≠ [] := by simp
    generalize (D.int (ps.length : Int) :: D.int (-2) :: D.non :: D.bl true :: D.bl false :: D.str (Str.ofString "0") :: D.int ((ps.length : Int) + 3) :: List.filter nnD (List.map D.int r2)) = nr at hat hlen hne
    subst hB5
    refine seq_step fun B5 hB5 => ?_
    have ha : a.toNat < os.length := by omega
    have hak : atI (sD os) a = some (.str os[a.toNat]) := by
      rw [atI_nn a0]; unfold sD; rw [List.getElem?_map, List.getElem?_eq_getElem ha]; rfl
    simp
    refine comp_pureE (fun d => !kindIs os[a.toNat] d) (partD 0) ?_
    simp
    refine ⟨fun d hd => ?_, ?_⟩
    · rw [enum_range] at hd
      obtain ⟨n, hn, rfl⟩ := List.mem_map.mp hd
      simp [wipeR, bindP, bindPs, kindIs, partD, tupOf, hak]
      by_cases q : ps[n]?.getD ("" : Str) = os[a.toNat] <;> simp [q]
    have hf2 : (List.filter (fun d => !kindIs os[a.toNat] d) (enumD (sD ps))).length ≤ 4 := by
      have := List.length_filter_le (fun d => !kindIs os[a.toNat] d) (enumD (sD ps))
      rw [enum_range, List.length_map, List.length_range] at this
      rw [enum_range]; omega
    have hat2 : ∀ x ∈ List.map (partD 0) (List.filter (fun d => !kindIs os[a.toNat] d) (enumD (sD ps))), atom x = true := by
      intro x hx
      obtain ⟨d, hd, rfl⟩ := List.mem_map.mp hx
      have hd2 := (List.mem_filter.mp hd).1
      rw [enum_range] at hd2
      obtain ⟨n, hn, rfl⟩ := List.mem_map.mp hd2
      rfl
    have hat3 := atoms_append hat hat2
    have hl3 : (nr ++ List.map (partD 0) (List.filter (fun d => !kindIs os[a.toNat] d) (enumD (sD ps)))).length ≤ 15 := by rw [List.length_append, List.length_map]; omega
    refine ⟨by omega, ?_⟩
    have ne3 : nr ++ List.map (partD 0) (List.filter (fun d => !kindIs os[a.toNat] d) (enumD (sD ps))) ≠ [] := fun z => hne (List.append_eq_nil_iff.mp z).1
    generalize nr ++ List.map (partD 0) (List.filter (fun d => !kindIs os[a.toNat] d) (enumD (sD ps))) = nr2 at hat3 hl3 ne3
    subst hB5
    simp [cut_first a0, cut_rest (show 0 ≤ a + 1 by omega), cut_last, lr2]
    refine pickL_ok ne3 (by omega) I4 fun d M6 hd I6 => ?_
    have hd' := hat3 d hd
    have tk : (List.take a.toNat (List.map D.int r2)).length ≤ 4 := by rw [List.length_take, List.length_map]; omega
    have dr : (List.drop (a + 1).toNat (List.map D.int r2)).length ≤ 4 := by rw [List.length_drop, List.length_map]; omega
    have g1 : gAdd (.tup (List.take a.toNat (List.map D.int r2))) (.tup [d]) = some (.tup (List.take a.toNat (List.map D.int r2) ++ [d])) := gAdd_tup (by simp only [List.length_singleton]; omega)
    have g2 : gAdd (.tup (List.take a.toNat (List.map D.int r2) ++ [d])) (.tup (List.drop (a + 1).toNat (List.map D.int r2))) = some (.tup (List.take a.toNat (List.map D.int r2) ++ [d] ++ List.drop (a + 1).toNat (List.map D.int r2))) := gAdd_tup (by rw [List.length_append, List.length_singleton]; omega)
    refine ⟨_, g1, _, g2, by omega, tail _ _ _ _ _ _ _ M6 ?_ (by simp) (by simp) I6⟩
    intro y hy
    have hy2 : y ∈ [D.non, D.int 5, D.lst [], D.tup (List.replicate (os.length + 1) (D.int (-1))), D.tup (List.replicate os.length (D.int (-2)) ++ [D.int 0]), D.lst (List.map D.int r ++ [D.int 0])] ∨ y = D.tup (List.take a.toNat (List.map D.int r2) ++ [d] ++ List.drop (a + 1).toNat (List.map D.int r2)) ∨ y = D.tup (List.map D.int r2).dropLast ∨ y = D.lst (List.replicate os.length (D.int (-1))) := by
      simp only [List.mem_cons, List.not_mem_nil, or_false] at hy ⊢
      rcases hy with h | h | h | h | h | h | h | h | h <;> simp [h]
    rcases hy2 with h | h | h | h
    · exact c0 y h
    · rw [h]
      refine cand_tup (atoms_append (atoms_append (atoms_sub (fun x hx => List.mem_of_mem_take hx) (row_atoms r2)) (atoms_one hd')) (atoms_sub (fun x hx => List.mem_of_mem_drop hx) (row_atoms r2))) ?_
      rw [List.length_append, List.length_append, List.length_singleton]; omega
    · rw [h]
      refine cand_tup (atoms_sub (fun x hx => List.dropLast_subset _ hx) (row_atoms r2)) ?_
      rw [List.length_dropLast, List.length_map]; omega
    · rw [h]
      exact cand_lst (fun x hx => by rw [(List.mem_replicate.mp hx).2]; rfl) (by rw [List.length_replicate]; omega)
end
end Dn
-- P07k
/-! k07: what is written of drawn things. -/
namespace Dn
open PySem L2
mutual
def okD : D → Bool
  | .int i => decide (0 ≤ i) && decide (i ≤ 10)
  | .str x => decide (x ∈ menuP ++ menuT)
  | .tup ds => okDs ds
  | .lst ds => okDs ds
  | _ => false
def okDs : List D → Bool
  | [] => true
  | d :: ds => okD d && okDs ds
end
def toPyD (d : D) : PyData := (toPy d).getD .none
theorem int_small : ∀ n : Nat, n ≤ 10 → (PyData.showable (.int n) = true ∧ PyData.leavesShort 13 (.int n) = true ∧ PyData.weight (.int n) ≤ 8) := by
  intro n hn
  have : n = 0 ∨ n = 1 ∨ n = 2 ∨ n = 3 ∨ n = 4 ∨ n = 5 ∨ n = 6 ∨ n = 7 ∨ n = 8 ∨ n = 9 ∨ n = 10 := by omega
  rcases this with h | h | h | h | h | h | h | h | h | h | h <;> subst h <;> decide +kernel
theorem str_small {x : Str} (h : x ∈ menuP ++ menuT) : PyData.leavesShort 13 (.str x) = true ∧ PyData.weight (.str x) ≤ 8 := by
  simp only [menuP, menuT, List.cons_append, List.nil_append, List.mem_cons, List.not_mem_nil, or_false] at h
  rcases h with rfl | rfl | rfl | rfl | rfl | rfl | rfl <;> decide +kernel
mutual
theorem ok_py : ∀ {d : D}, okD d = true → ∃ x, toPy d = some x ∧ x.showable = true ∧ x.leavesShort 13 = true ∧ x.weight + 1 ≤ 10 * sz d
  | .non, h => by simp [okD] at h
  | .bl b, h => by simp [okD] at h
  | .dct _ _, h => by simp [okD] at h
  | .ref _, h => by simp [okD] at h
  | .fn _, h => by simp [okD] at h
  | .int i, h => by
    simp only [okD, Bool.and_eq_true, decide_eq_true_eq] at h
    obtain ⟨n, rfl⟩ := Int.eq_ofNat_of_zero_le h.1
    obtain ⟨h1, h2, h3⟩ := int_small n (by omega)
    exact ⟨_, toPy_int, h1, h2, by simp [sz]; omega⟩
  | .str x, h => by
    simp only [okD, decide_eq_true_eq] at h
    obtain ⟨h2, h3⟩ := str_small h
    exact ⟨_, toPy_str, by simp [PyData.showable], h2, by simp [sz]; omega⟩
  | .tup ds, h => by
    simp only [okD] at h
    obtain ⟨xs, e, h1, h2, h3⟩ := ok_pys h
    refine ⟨_, toPy_tup e, by simpa [PyData.showable] using h1, by simpa [PyData.leavesShort] using h2, ?_⟩
    simp [PyData.weight, sz]; omega
  | .lst ds, h => by
    simp only [okD] at h
    obtain ⟨xs, e, h1, h2, h3⟩ := ok_pys h
    refine ⟨_, toPy_lst e, by simpa [PyData.showable] using h1, by simpa [PyData.leavesShort] using h2, ?_⟩
    simp [PyData.weight, sz]; omega
theorem ok_pys : ∀ {ds : List D}, okDs ds = true → ∃ xs, toPys ds = some xs ∧ PyData.showableAll xs = true ∧ PyData.leavesShortAll 13 xs = true ∧ PyData.weightAll xs ≤ 10 * szs ds
  | [], _ => ⟨[], toPys_nil, rfl, rfl, by simp [PyData.weightAll, szs]⟩
  | d :: ds, h => by
    simp only [okDs, Bool.and_eq_true] at h
    obtain ⟨x, e1, a1, a2, a3⟩ := ok_py h.1
    obtain ⟨xs, e2, b1, b2, b3⟩ := ok_pys h.2
    refine ⟨_, toPys_cons e1 e2, by simp [PyData.showableAll, a1, b1], by simp [PyData.leavesShortAll, a2, b2], ?_⟩
    simp [PyData.weightAll, szs]; omega
end
theorem okDs_map {α : Type} {f : α → D} : ∀ {l : List α}, (∀ x ∈ l, okD (f x) = true) → okDs (l.map f) = true
  | [], _ => by simp [okDs]
  | x :: l, h => by simp [okDs, h x (.head _), okDs_map fun y hy => h y (.tail _ hy)]
theorem szs_map {α : Type} {f : α → D} (c : Nat) : ∀ {l : List α}, (∀ x ∈ l, sz (f x) ≤ c) → szs (l.map f) ≤ c * l.length
  | [], _ => by simp [szs]
  | x :: l, h => by
    have h1 := h x (.head _)
    have h2 := szs_map c fun y hy => h y (.tail _ hy)
    simp [szs, Nat.mul_succ]; omega
theorem depthAll_map {α : Type} {f : α → PyData} (c : Nat) : ∀ {l : List α}, (∀ x ∈ l, (f x).depth ≤ c) → PyData.depthAll (l.map f) ≤ c
  | [], _ => by simp [PyData.depthAll]
  | x :: l, h => by
    have h1 := h x (.head _)
    have h2 := depthAll_map c fun y hy => h y (.tail _ hy)
    simp [PyData.depthAll]; omega
theorem ok_sD {xs : List Str} (h : ∀ x ∈ xs, x ∈ menuP ++ menuT) : okDs (sD xs) = true := okDs_map fun x hx => by simp only [okD]; exact decide_eq_true (h x hx)
theorem sz_sD (xs : List Str) : szs (sD xs) ≤ xs.length := by
  have := szs_map (f := D.str) 1 (l := xs) (fun x _ => by simp [sz])
  unfold sD; omega
abbrev pyTK (t : TieK) : PyData := .tuple [.str t.name, .tuple (t.ends.map .str), .int t.size]
abbrev pyK (K : Kinds) : PyData := .tuple [.tuple (K.places.map .str), .tuple (K.ties.map pyTK)]
abbrev pyP (p : Patt) : PyData := .tuple [.tuple (p.places.map .str), .tuple (p.ties.map pyTP)]
theorem toPy_TK (t : TieK) : toPy (encTK t) = some (pyTK t) := toPy_tup (toPys_cons toPy_str (toPys_cons (toPy_tup (toPys_sD _)) (toPys_cons toPy_int toPys_nil)))
theorem toPy_K (K : Kinds) : toPy (encK K) = some (pyK K) := toPy_tup (toPys_cons (toPy_tup (toPys_sD _)) (toPys_cons (toPy_tup (toPys_all fun t _ => toPy_TK t)) toPys_nil))
theorem toPy_P (p : Patt) : toPy (encP p) = some (pyP p) := toPy_tup (toPys_cons (toPy_tup (toPys_sD _)) (toPys_cons (toPy_tup (toPys_TP _)) toPys_nil))
theorem depth_strs (xs : List Str) : PyData.depthAll (xs.map .str) ≤ 0 := depthAll_map 0 fun x _ => by simp [PyData.depth]
theorem depth_TK (t : TieK) : (pyTK t).depth ≤ 2 := by
  have := depth_strs t.ends
  simp [PyData.depth, PyData.depthAll]; omega
theorem depth_TP2 (t : TieP) : (pyTP t).depth ≤ 3 := by
  have := depth_ints t.ends
  simp [PyData.depth, PyData.depthAll]; omega
theorem depth_K (K : Kinds) : (pyK K).depth ≤ 4 := by
  have h1 := depth_strs K.places
  have h2 := depthAll_map (f := pyTK) 2 (l := K.ties) fun t _ => depth_TK t
  simp [PyData.depth, PyData.depthAll] at h1 h2 ⊢; omega
theorem depth_P (p : Patt) : (pyP p).depth ≤ 5 := by
  have h1 := depth_strs p.places
  have h2 := depthAll_map (f := pyTP) 3 (l := p.ties) fun t _ => depth_TP2 t
  simp [PyData.depth, PyData.depthAll] at h1 h2 ⊢; omega
theorem ok_K {K : Kinds} (g : GoodK K) : okD (encK K) = true ∧ sz (encK K) ≤ 50 := by
  have m1 : ∀ x ∈ K.places, x ∈ menuP ++ menuT := fun x hx => List.mem_append_left _ (g.menu x hx)
  have h1 : okDs (K.ties.map encTK) = true := okDs_map fun t ht => by
    have gt := g.ties t ht
    have h2 := ok_sD (xs := t.ends) fun e he => m1 e (gt.sub e he)
    have s1 := gt.s1
    have s3 := gt.s3
    simp only [okD, okDs, h2, Bool.and_true, Bool.and_eq_true, decide_eq_true_eq, Bool.true_and]
    exact ⟨List.mem_append_right _ gt.name, by omega, by omega⟩
  have h3 := szs_map (f := encTK) 7 (l := K.ties) fun t ht => by
    have gt := g.ties t ht
    have := sz_sD t.ends
    have := gt.e3
    simp [sz, szs]; omega
  have h4 := sz_sD K.places
  have h5 := g.few
  have h6 := g.tfew
  refine ⟨by simp [okD, okDs, ok_sD m1, h1], ?_⟩
  simp [sz, szs] at h3 ⊢; omega
theorem ok_P {K : Kinds} {p : Patt} (g : GoodK K) (gp : GoodP K p) : okD (encP p) = true ∧ sz (encP p) ≤ 50 := by
  have m1 : ∀ x ∈ K.places, x ∈ menuP ++ menuT := fun x hx => List.mem_append_left _ (g.menu x hx)
  have few := gp.few
  have tf := gp.tfew
  have h1 : okDs (p.ties.map encTP) = true := okDs_map fun t ht => by
    obtain ⟨k, hk, e1, v0, v1, hl, he⟩ := (gp.ties t ht).tk
    have gt := g.ties k hk
    have s3 := gt.s3
    have h2 : okDs (t.ends.map .int) = true := okDs_map fun e hx => by
      obtain ⟨j, hj⟩ := List.mem_iff_getElem?.mp hx
      obtain ⟨e0, ee⟩ := he j e hj
      have hj2 : j < k.ends.length := by rw [← hl]; exact (List.getElem?_eq_some_iff.mp hj).1
      rw [List.getElem?_eq_getElem hj2] at ee
      have := (List.getElem?_eq_some_iff.mp ee).1
      simp only [okD, Bool.and_eq_true, decide_eq_true_eq]; omega
    simp only [okD, okDs, h2, Bool.and_true, Bool.and_eq_true, decide_eq_true_eq]
    exact ⟨by rw [← e1]; exact List.mem_append_right _ gt.name, v0, by omega⟩
  have h3 := szs_map (f := encTP) 7 (l := p.ties) fun t ht => by
    obtain ⟨k, hk, e1, v0, v1, hl, he⟩ := (gp.ties t ht).tk
    have gt := g.ties k hk
    have := szs_map (f := D.int) 1 (l := t.ends) (fun x _ => by simp [sz])
    have := gt.e3
    simp [sz, szs]; omega
  have h4 := sz_sD p.places
  refine ⟨by simp [okD, okDs, ok_sD (fun x hx => m1 x (gp.sub x hx)), h1], ?_⟩
  simp [sz, szs] at h3 ⊢; omega
theorem ok3 {a b c : D} (ha : okD a = true) (hb : okD b = true) (hc : okD c = true) : okD (.tup [a, b, c]) = true := by simp [okD, okDs, ha, hb, hc]
theorem sz3 {a b c : D} : sz (.tup [a, b, c]) = 1 + (sz a + (sz b + (sz c + 0))) := by simp [sz, szs]
theorem repr_of {d : D} {x : PyData} (e : toPy d = some x) (h : shownOk x = true) : fRepr [d] = some (.str x.shown) := by simp [fRepr, e, h]
theorem repr_ok {K : Kinds} {p q : Patt} (g : GoodK K) (gp : GoodP K p) (gq : GoodP K q) : ∃ s, fRepr [.tup [encK K, encP p, encP q]] = some (.str s) := by
  obtain ⟨k1, k2⟩ := ok_K g
  obtain ⟨p1, p2⟩ := ok_P g gp
  obtain ⟨q1, q2⟩ := ok_P g gq
  have h1 : okD (.tup [encK K, encP p, encP q]) = true := ok3 k1 p1 q1
  have h2 : sz (.tup [encK K, encP p, encP q]) ≤ 200 := by rw [sz3]; omega
  obtain ⟨x, e, a1, a2, a3⟩ := ok_py h1
  have e2 : toPy (.tup [encK K, encP p, encP q]) = some (.tuple [pyK K, pyP p, pyP q]) := toPy_tup (toPys_cons (toPy_K K) (toPys_cons (toPy_P p) (toPys_cons (toPy_P q) toPys_nil)))
  have dp : x.depth ≤ 60 := by
    rw [e] at e2
    cases e2
    have := depth_K K
    have := depth_P p
    have := depth_P q
    simp only [PyData.depth, PyData.depthAll] at *; omega
  have sl := PyData.shown_le 13 (by decide) x a2
  refine ⟨x.shown, repr_of e ?_⟩
  unfold shownOk
  simp only [Bool.and_eq_true, decide_eq_true_eq]
  exact ⟨⟨a1, by rw [size_num]; omega⟩, dp⟩
end Dn
-- P07l
/-! k07: the law. -/
namespace Dn
open PySem L2
section
variable {R M : Mem} {ρ : Rho} {Q : D → Mem → Prop}
/-- what a def that hears tells of an error -/
theorem heard_of {B : E D} {nm : Str} {t r : D} {w : Str} {Q : D → Rho → Mem → Prop} (hB : ∃ ρ', B (capR ρ) M = .exc nm t ρ' M) (hk : kn0 nm = true) (hc : ∃ ρ2, catchG cs__law_heard nm t (List.replicate 2 .un) M = .ret r ρ2 M) (k : Q r ρ M) : (eHeard kn0 w cs__law_heard 2 B ρ M).Ok Q := by
  obtain ⟨ρ', e⟩ := hB
  obtain ⟨ρ2, e2⟩ := hc
  unfold eHeard heardG
  simp only [e, hk, e2]
  simpa using k
theorem caught_kinds (t : D) : ∃ ρ2, catchG cs__law_heard "BadKinds" t (List.replicate 2 .un) M = .ret (.tup [.str "kinds", t, .bl true]) ρ2 M := ⟨_, rfl⟩
theorem caught_pattern (t : D) : ∃ ρ2, catchG cs__law_heard "BadPattern" t (List.replicate 2 .un) M = .ret (.tup [.str "pattern", t, .bl true]) ρ2 M := ⟨_, rfl⟩
theorem caught_fit (t : D) : ∃ ρ2, catchG cs__law_heard "BadFit" t (List.replicate 2 .un) M = .ret (.tup [.str "fit", t, .bl true]) ρ2 M := ⟨_, rfl⟩
theorem kn1 : kn0 "BadKinds" = true := by decide
theorem kn2 : kn0 "BadPattern" = true := by decide
theorem kn3 : kn0 "BadFit" = true := by decide
/-- a call that raises -/
theorem call_exc {n : Nat} {G : Fn} {L : E (List D)} {ds : List D} {nm : Str} {t : D} (hL : L ρ M = .ok ds ρ M) (hn : ds.length = n) (h : Fn.Exc G ds M nm t) : ∃ ρ', eCall n G L ρ M = .exc nm t ρ' M := by
  obtain ⟨ρ', e⟩ := h
  refine ⟨ρ, ?_⟩
  simp [eCall, eBind, hL, R.bind, hn, callG, e]
theorem callK_exc {n m : Nat} {idx : List Nat} {G : Fn} {L : E (List D)} {ds : List D} {nm : Str} {t : D} (hL : L ρ M = .ok ds ρ M) (hm : ds.length = m) (hn : (pickL idx ds).length = n) (h : Fn.Exc G (pickL idx ds) M nm t) : ∃ ρ', eCallK n idx m G L ρ M = .exc nm t ρ' M := by
  obtain ⟨ρ', e⟩ := h
  refine ⟨ρ, ?_⟩
  simp [eCallK, eBind, hL, R.bind, hm, hn, callG, e]
theorem rows_pl {L : List (List Int)} (h : ∀ r ∈ L, r.length ≤ 4) : pls (encRs L) = true ∧ szs (encRs L) ≤ 5 * L.length := by
  unfold encRs
  constructor
  · induction L with
    | nil => simp [pls]
    | cons r L ih =>
      have := (pl_atoms (row_atoms r)).1
      simp [pls, ih fun r hr => h r (.tail _ hr), encR, pl, this]
  · refine szs_map 5 fun r hr => ?_
    have h1 := (pl_atoms (row_atoms r)).2
    have h2 := h r hr
    rw [List.length_map] at h1
    simp [encR, sz, h1]; omega
theorem encR_pl {r : List Int} : pl (encR r) = true ∧ sz (encR r) = 1 + r.length := by
  have := pl_atoms (row_atoms r)
  rw [List.length_map] at this
  simp [encR, pl, sz, this]
theorem pair_ok {d : D} (h : pl d = true) (hz : sz d ≤ 400000) (k : Q (.bl true) M) : Fn.Ok G__law_same [.lst [d, d], .lst [d, d]] M Q := same_ok (by simp [pl, pls, h]) (by simp [sz, szs]; omega) k
theorem img_len : ∀ (r : List Int) (c : Int), (img r c).length = r.length
  | [], _ => rfl
  | n :: r, c => by simp [img, img_len r]
theorem row_signs {ps os : List Str} {r : List Int} (h : r ∈ M7.rowsOf ps os) : ∀ n ∈ r, n = -1 ∨ 0 ≤ n := fun n hn => by
  have := (ok_range ((M7.mem_rows _ rfl).mp h) n hn).1
  omega
mutual
theorem ok_pl : ∀ {d : D}, okD d = true → pl d = true
  | .non, h => by simp [okD] at h
  | .bl b, h => by simp [okD] at h
  | .dct _ _, h => by simp [okD] at h
  | .ref _, h => by simp [okD] at h
  | .fn _, h => by simp [okD] at h
  | .int i, h => by simp [pl]
  | .str x, h => by simp [pl]
  | .tup ds, h => by simp only [okD] at h; simp [pl, ok_pls h]
  | .lst ds, h => by simp only [okD] at h; simp [pl, ok_pls h]
theorem ok_pls : ∀ {ds : List D}, okDs ds = true → pls ds = true
  | [], _ => by simp [pls]
  | d :: ds, h => by
    simp only [okDs, Bool.and_eq_true] at h
    simp [pls, ok_pl h.1, ok_pls h.2]
end
theorem badK_pl {K : Kinds} {d : D} (g : GoodK K) (h : badK K d) : pl d = true ∧ sz d ≤ 100 := by
  obtain ⟨k1, k2⟩ := ok_K g
  have k3 := ok_pl k1
  simp only [pl, pls, Bool.and_eq_true, Bool.and_true] at k3
  simp only [sz, szs] at k2
  rcases h with rfl | rfl | rfl | rfl
  · simp [pl, sz]
  · simp [pl, pls, sz, szs]
  · simp [pl, pls, sz, szs, k3.1]; omega
  · simp [pl, pls, sz, szs, k3]; omega
theorem badP_pl {K : Kinds} {p : Patt} {d : D} (g : GoodK K) (gp : GoodP K p) (h : badP p d) : pl d = true ∧ sz d ≤ 100 := by
  obtain ⟨k1, k2⟩ := ok_P g gp
  have k3 := ok_pl k1
  simp only [pl, pls, Bool.and_eq_true, Bool.and_true] at k3
  simp only [sz, szs] at k2
  rcases h with rfl | rfl | rfl | rfl | rfl
  · simp [pl, sz]
  · simp [pl, pls, sz, szs]
  · simp [pl, pls, sz, szs, k3.1]; omega
  · simp [pl, pls, sz, szs, k3]; omega
  · simp [pl, pls, sz, szs, k3.1]; omega
theorem law_ok (ns : List Int) : Fn.Ok G_law [.lst (ns.map .int)] [] fun d _ => d = .bl true := by
  unfold G_law F_law
  rw [Ok_body]
  refine seq_step fun B1 hB1 => ?_
  simp [startR]
  refine deck_ok fun M1 I1 => ?_
  subst hB1
  refine seq_step fun B1 hB1 => ?_
  simp [range1_int (show (0 : Int) ≤ 6 by decide) (show (6 : Int) < 1000000 by decide)]
  refine for_ok (fun i ρ M => Deck [] M ∧ ∃ s2 s3 s4 s5 s6 s7 s8 s9 s10 s11 s12 s13 s14, ρ = [.val (.lst (ns.map .int)), .val (.ref 1), s2, s3, s4, s5, s6, s7, s8, s9, s10, s11, s12, s13, s14]) ⟨I1, _, _, _, _, _, _, _, _, _, _, _, _, _, rfl⟩ (fun i d ρ M hd ⟨I, s2, s3, s4, s5, s6, s7, s8, s9, s10, s11, s12, s13, s14, e⟩ => ?_) fun ρ M ⟨I, s2, s3, s4, s5, s6, s7, s8, s9, s10, s11, s12, s13, s14, e⟩ => ?_
  · subst e
    refine ⟨_, rfl, ?_⟩
    refine seq_step fun C1 hC1 => ?_
    simp
    refine kinds_ok I fun K M2 gk I2 => ?_
    subst hC1
    refine seq_step fun C1 hC1 => ?_
    simp
    refine draw_ok (by decide) (by decide) I2 fun r M3 r0 r1 I3 => ?_
    obtain ⟨n1, rfl⟩ := Int.eq_ofNat_of_zero_le r0
    refine pattern_ok (most := 3) gk (by omega) (by omega) I3 fun one M4 go _ I4 => ?_
    subst hC1
    refine seq_step fun C1 hC1 => ?_
    simp
    refine draw_ok (by decide) (by decide) I4 fun r M5 r0 r1 I5 => ?_
    obtain ⟨n2, rfl⟩ := Int.eq_ofNat_of_zero_le r0
    refine pattern_ok (most := 3) gk (by omega) (by omega) I5 fun p2 M6 g2 _ I6 => ?_
    refine draw_ok (by decide) (by decide) I6 fun r M7' r0 r1 I7 => ?_
    obtain ⟨n3, rfl⟩ := Int.eq_ofNat_of_zero_le r0
    refine pattern_ok (most := 3) gk (by omega) (by omega) I7 fun p3 M8 g3 _ I8 => ?_
    try simp
    refine pickL_ok (by simp) (by simp) I8 fun x M9 hx I9 => ?_
    obtain ⟨other, rfl, gt⟩ : ∃ other, x = encP other ∧ GoodP K other := by
      simp only [List.mem_cons, List.not_mem_nil, or_false] at hx
      rcases hx with h | h | h
      · exact ⟨_, h, go⟩
      · exact ⟨_, h, g2⟩
      · exact ⟨_, h, g3⟩
    subst hC1
    refine seq_step fun C1 hC1 => ?_
    obtain ⟨kept, hkept⟩ := repr_ok gk go gt
    simp [hkept]
    refine lawMaps_ok go.few gt.few ?_
    simp [setIs]
    subst hC1
    refine seq_step fun C1 hC1 => ?_
    simp
    refine maps_ok gk go gt ?_
    subst hC1
    refine seq_step fun C1 hC1 => ?_
    have few := M7.few_rows go.few gt.few
    have hlen : ∀ r ∈ M7.rowsOf one.places other.places, r.length ≤ 4 := fun r hr => by rw [M7.rowsOf_len _ _ hr]; exact gt.few
    obtain ⟨rp, rz⟩ := rows_pl hlen
    simp [pickL]
    refine maps_ok gk go gt ?_
    try simp
    refine pair_ok (by simpa [pl] using rp) (by simp [sz]; omega) ?_
    simp
    refine lawMany_ok go.few gt.few ?_
    try simp [encRs_length]
    subst hC1
    refine seq_step fun C1 hC1 => ?_
    simp
    refine mixed_ok (by rw [encRs_length]; omega) I9 fun ys M10 hp I10 => ?_
    obtain ⟨zs, rfl, pz⟩ := perm_of_map hp (xs := M7.rowsOf one.places other.places) rfl
    have ct : cutD (zs.map encR) none (some 3) = (zs.take 3).map encR := by rw [cut_first (by decide), ← List.map_take]; rfl
    simp [ct]
    refine for_ok (fun i ρ M => Deck [] M ∧ ∃ s9 s10, ρ = [.val (.lst (ns.map .int)), .val (.ref 1), .val d, .val (encK K), .val (encP one), .val (encP other), .val (.str kept), .val (.tup (encRs (M7.rowsOf one.places other.places))), .val (.tup (encRs (M7.rowsOf one.places other.places))), s9, s10, s11, s12, s13, s14]) ⟨I10, _, _, rfl⟩ (fun i d2 ρ M hd2 ⟨I, s9, s10, e⟩ => ?_) fun ρ M ⟨I, s9, s10, e⟩ => ?_
    · subst e
      rw [← List.map_take, List.getElem?_map] at hd2
      obtain ⟨r, hr, rfl⟩ := Option.map_eq_some_iff.mp hd2
      have hr1 : r ∈ M7.rowsOf one.places other.places := pz.mem_iff.mp (List.mem_of_mem_take (List.mem_of_getElem? hr))
      have hr2 := hlen r hr1
      refine ⟨_, rfl, ?_⟩
      refine seq_step fun C2 hC2 => ?_
      simp
      refine lawImage_ok (by omega) (row_signs hr1) ?_
      subst hC2
      simp [pickL]
      refine images_ok gk go gt hr1 ?_
      refine images_ok gk go gt hr1 ?_
      try simp
      refine pair_ok encR_pl.1 (by rw [encR_pl.2, img_len]; omega) ?_
      simp
      exact I
    · subst e
      subst hC1
      refine seq_step fun C1 hC1 => ?_
      have cK : cutD [D.tup (sD K.places), D.tup (K.ties.map encTK)] none (some 1) = [D.tup (sD K.places)] := by rw [cut_first (by decide)]; rfl
      have cP : cutD [D.tup (sD one.places), D.tup (one.ties.map encTP)] none (some 1) = [D.tup (sD one.places)] := by rw [cut_first (by decide)]; rfl
      simp [cK, cP]
      refine pickL_ok (by simp) (by simp) I fun bad M11 hbad I11 => ?_
      have hb : badK K bad := by simpa [badK] using hbad
      refine pickL_ok (by simp) (by simp) I11 fun odd M12 hodd I12 => ?_
      have ho : badP one odd := by simpa [badP] using hodd
      simp [setIs]
      subst hC1
      refine seq_step fun C1 hC1 => ?_
      simp
      refine noMap_ok go.few gt.few I12 fun none M13 hn hnp hnz I13 => ?_
      subst hC1
      refine seq_step fun C1 hC1 => ?_
      simp
      refine heard_of (call_exc (ds := [bad, odd, odd]) rfl rfl (maps_exc (needPatterns_exc1 hb))) kn1 (caught_kinds _) ?_
      simp
      subst hC1
      refine seq_step fun C1 hC1 => ?_
      simp [ownL]
      refine heard_of (call_exc (ds := [encK K, odd, .non]) rfl rfl (maps_exc (needPatterns_exc2 gk go ho))) kn2 (caught_pattern _) ?_
      simp
      subst hC1
      refine seq_step fun C1 hC1 => ?_
      simp [ownL]
      refine heard_of (callK_exc (ds := [odd, encP one, encK K]) rfl rfl rfl (maps_exc (needPatterns_exc3 gk go go ho))) kn2 (caught_pattern _) ?_
      simp
      subst hC1
      refine seq_step fun C1 hC1 => ?_
      simp [ownL]
      refine heard_of (call_exc (ds := [encK K, odd, .non, .non]) rfl rfl (images_exc (needMap_exc (needPatterns_exc2 gk go ho)))) kn2 (caught_pattern _) ?_
      simp
      subst hC1
      refine seq_step fun C1 hC1 => ?_
      simp [ownL]
      refine heard_of (call_exc (ds := [encK K, encP one, odd, .non]) rfl rfl (images_exc (needMap_exc (needPatterns_exc3 gk go go ho)))) kn2 (caught_pattern _) ?_
      simp
      subst hC1
      refine seq_step fun C1 hC1 => ?_
      simp [ownL]
      refine heard_of (call_exc (ds := [encK K, encP one, encP other, none]) rfl rfl (images_exc (needMap_exc2 gk go gt hn))) kn3 (caught_fit _) ?_
      simp
      subst hC1
      refine seq_step fun C1 hC1 => ?_
      simp [ownL]
      refine heard_of (callK_exc (ds := [none, encP other, encP one, encK K]) rfl rfl rfl (images_exc (needMap_exc2 gk go gt hn))) kn3 (caught_fit _) ?_
      simp
      subst hC1
      refine seq_step fun C1 hC1 => ?_
      simp [ownL]
      subst hC1
      obtain ⟨b1, b2⟩ := badK_pl gk hb
      obtain ⟨o1, o2⟩ := badP_pl gk go ho
      simp [hkept]
      refine same_ok ?_ ?_ ?_
      · simp [pl, pls, b1, o1, hnp]
      · simp [sz, szs]; omega
      simp
      exact I13
  · subst e hB1
    simp
end
end Dn
-- DnMk
/-! Dn: from what the head knows to where the defs stand. -/
namespace Dn
open PySem PySem.Spec PyProof.Rows L2
section
variable {K : PySem.W.Frag} {h : Heap} {mg : Str → Option Value}
/-- what the head tells of a def -/
structure DefIn (K : PySem.W.Frag) (x : Str) (st : Stmt) (f : Addr) (cd : Value) : Prop where
  at' : PySem.W.nsIn K mainGlobals x = some (some (.ref f))
  lk : ∃ (oc : Value) (od : Option Addr) (kV doc pm : Value) (an : Option Addr) (ct : Value) (osl : Array (Option Value)), K.lookup f = some ⟨oc, od, .func (PySem.W.fnOf x x (defArgs st) (defBody st) (defScope st) .none kV doc pm an cd ct), osl⟩
  cdI : PySem.W.codeIn K cd x = true
  kp : PySem.W.keepIn K (.ref f) = true
theorem DefIn.of {x : Str} {st : Stmt} {f : Addr} {oc : Value} {od an : Option Addr} {osl : Array (Option Value)} {kV doc pm cd ct : Value} (a : PySem.W.nsIn K mainGlobals x = some (some (.ref f)))
    (l : K.lookup f = some ⟨oc, od, .func (PySem.W.fnOf x x (defArgs st) (defBody st) (defScope st) .none kV doc pm an cd ct), osl⟩) (c : PySem.W.codeIn K cd x = true) (k : PySem.W.keepIn K (.ref f) = true) : DefIn K x st f cd := ⟨a, ⟨oc, od, kV, doc, pm, an, ct, osl, l⟩, c, k⟩
/-- the binding of all parameters -/
def AllB (x : Str) (st : Stmt) (ps : List Str) : Prop := ∀ (kV doc pm : Value) (an : Option Addr) (cd ct : Value) (us : List Value), us.length = ps.length → bindArgs (PySem.W.fnOf x x (defArgs st) (defBody st) (defScope st) .none kV doc pm an cd ct) ⟨us, []⟩ = pure (ps.zip us)
theorem DefIn.ex {x : Str} {st : Stmt} {f : Addr} {cd : Value} {ps : List Str} (X : K.In h) (G : h.Ns mainGlobals mg) (d : DefIn K x st f cd) (b : AllB x st ps) : ∃ e : DefAt K mg x st ps, e.f = f ∧ e.fd.code = cd := by
  obtain ⟨a, ⟨oc, od, kV, doc, pm, an, ct, osl, l⟩, c, k⟩ := d
  have fn := fun_mk (st := st) l c k
  exact ⟨⟨f, _, fn, PySem.W.mg_of X G a, fn.binds b⟩, rfl, rfl⟩
theorem DefIn.exK {x : Str} {st : Stmt} {f : Addr} {cd : Value} {ps : List Str} (X : K.In h) (G : h.Ns mainGlobals mg) (d : DefIn K x st f cd) (b : AllB x st ps) :
    ∃ e : DefAt K mg x st ps, e.f = f ∧ e.fd.code = cd ∧ ∃ (kV doc pm : Value) (an : Option Addr) (ct : Value), e.fd = PySem.W.fnOf x x (defArgs st) (defBody st) (defScope st) .none kV doc pm an cd ct := by
  obtain ⟨a, ⟨oc, od, kV, doc, pm, an, ct, osl, l⟩, c, k⟩ := d
  have fn := fun_mk (st := st) l c k
  exact ⟨⟨f, _, fn, PySem.W.mg_of X G a, fn.binds b⟩, rfl, rfl, _, _, _, _, _, rfl⟩
theorem with_def {goal : Prop} {x : Str} {st : Stmt} {f : Addr} {oc : Value} {od an : Option Addr} {osl : Array (Option Value)} {kV doc pm cd ct : Value} (X : K.In h) (a : PySem.W.nsIn K mainGlobals x = some (some (.ref f)))
    (l : K.lookup f = some ⟨oc, od, .func (PySem.W.fnOf x x (defArgs st) (defBody st) (defScope st) .none kV doc pm an cd ct), osl⟩) (c : PySem.W.codeIn K cd x = true) (k : PySem.W.keepIn K (.ref f) = true) (next : DefIn K x st f cd → goal) : goal := next (.of a l c k)
theorem with_law {goal : Prop} {x : Str} {st : Stmt} {f c0 P : Addr} {oc : Value} {od an : Option Addr} {osl : Array (Option Value)} {kV doc pm ct : Value} (X : K.In h) (hT : h.get? P = some { cls := .none, data := .fields #[] }) (n : K.lookup P = none) (a : PySem.W.nsIn K mainGlobals x = some (some (.ref f)))
    (l : K.lookup f = some ⟨oc, od, .func (PySem.W.fnOf x x (defArgs st) (defBody st) (defScope st) .none kV doc pm an (.ref c0) ct), osl⟩) (c : PySem.W.codeIn K (.ref c0) x = true) (k : PySem.W.keepIn K (.ref f) = true) (hd : PySem.W.codeHdIn K c0 P = true)
    (next : DefIn K x st f (.ref c0) → h.get? P = some { cls := .none, data := .fields #[] } → K.lookup P = none → PySem.W.CodeHd h c0 P → goal) : goal := next (.of a l c k) hT n (PySem.W.codeHd_of_K X hd)
end
end Dn
-- DnHd
/-! Dn: facts of the head from where a thing stands. -/
namespace Dn
open PySem PySem.Spec PyProof.Rows L2
section
variable {K : PySem.W.Frag} {C : Addr} {o : Obj} {bm : List Value} {id : String}
theorem lk_as {a : Addr} {o' : Obj} (lk : K.lookup a = some o) (e : o = o') : K.lookup a = some o' := e ▸ lk
theorem lk1 (C : Addr) (o : Obj) : List.lookup C [(C, o)] = some o := by simp [List.lookup]
theorem cls_lk (lk : K.lookup C = some o) : PySem.W.clsIn K C = PySem.W.clsIn [(C, o)] C := by unfold PySem.W.clsIn; rw [lk, lk1]
theorem made_lk (lk : K.lookup C = some o) (e : PySem.W.excInitIn [(C, o)] C bm id = true) : PySem.W.excInitIn K C bm id = true := by unfold PySem.W.excInitIn at e ⊢; rw [lk1] at e; rw [lk]; exact e
theorem over_lk (lk : K.lookup C = some o) (e : PySem.W.excOver [(C, o)] C bm = true) : PySem.W.excOver K C bm = true := by unfold PySem.W.excOver at e ⊢; rw [cls_lk lk]; exact e
theorem code_lk {P : Addr} (lk : K.lookup C = some o) (e : PySem.W.codeHdIn [(C, o)] C P = true) : PySem.W.codeHdIn K C P = true := by unfold PySem.W.codeHdIn at e ⊢; rw [lk1] at e; rw [lk]; exact e
theorem along_ex (K : PySem.W.Frag) : PySem.W.alongIn K "__init__" exM = some (some (.builtin "Exception.__init__")) := by rfl
theorem sup_lk {D : Addr} (lk : K.lookup C = some o) (e : (PySem.W.clsIn [(C, o)] C).bind (fun cd => some ((cd.mro.dropWhile (· != .ref D)).drop 1)) = some exM) : PySem.W.ks_superIn K C D "__init__" = some (some (.builtin "Exception.__init__")) := by
  unfold PySem.W.ks_superIn
  rw [cls_lk lk]
  cases q : PySem.W.clsIn [(C, o)] C with
  | none => rw [q] at e; cases e
  | some cd =>
    rw [q] at e
    have e2 : ((cd.mro.dropWhile (· != .ref D)).drop 1) = exM := Option.some.inj e
    show PySem.W.alongIn K "__init__" ((cd.mro.dropWhile (· != .ref D)).drop 1) = _
    rw [e2]
    exact along_ex K
theorem kit_cls {S : Addr} {t : Value} {b : Bool} (h2 : PySem.W.isClsIn K S = true) (h3 : PySem.W.typeIn K (.ref S) = some (.type "type")) (h4 : PySem.W.subIn K t (.ref S) = some b) : PySem.W.kitCls K t (.ref S) = some b := by
  unfold PySem.W.kitCls
  have h2' : (PySem.W.clsIn K S).isSome = true := h2
  simp only [h2', h3]
  exact h4
theorem exm_lk {S : Addr} {t : Value} {b : Bool} (h1 : PySem.W.subIn K (.ref S) (.type "BaseException") = some true) (h2 : PySem.W.isClsIn K S = true) (h3 : PySem.W.typeIn K (.ref S) = some (.type "type")) (h4 : PySem.W.subIn K t (.ref S) = some b) : PySem.W.exmOne K t (.ref S) = some b := by
  unfold PySem.W.exmOne
  rw [h1]
  exact kit_cls h2 h3 h4
theorem kit_lk {S : Addr} {t : Value} {b : Bool} (hne : (t == Value.ref S) = false) (h2 : PySem.W.isClsIn K S = true) (h3 : PySem.W.typeIn K (.ref S) = some (.type "type")) (h4 : PySem.W.subIn K t (.ref S) = some b) : PySem.W.kitOne K t (.ref S) = some b := by
  unfold PySem.W.kitOne
  rw [hne, if_neg Bool.false_ne_true]
  exact kit_cls h2 h3 h4
theorem no_lk {K : Params → PySem.W.Frag} {as : List Addr} {e : ∀ P, as = (K P).map (·.1)} {ts : List Addr} {w : World} {h : Heap} {P : Addr} (Y : (PySem.W.kmHook K as e ts).says w h) (hn : as.contains P = false) : (K w.params).lookup P = none := by
  have : ∀ l : PySem.W.Frag, (l.map (·.1)).contains P = false → l.lookup P = none := by
    intro l
    induction l with
    | nil => intro _; rfl
    | cons p l ih =>
      intro q
      obtain ⟨a, o⟩ := p
      simp only [List.map_cons, List.contains_cons, Bool.or_eq_false_iff] at q
      have q1 := ih q.2
      simp only [List.lookup, q.1]
      exact q1
  exact this _ (by rw [← e]; exact hn)
end
end Dn
-- P07z
namespace Dn
open PySem PySem.Spec PyProof.Rows L2 LamX
section
variable {P : Program} {K : PySem.W.Frag} {h : Heap} {mg : Str → Option Value}
theorem pg_all {c_law : Addr} (P_law : Addr) (X : K.In h) (G : h.Ns mainGlobals mg)
    {f_is_whole : Addr} {cd_is_whole : Value} (h_is_whole : DefIn K "is_whole" (top 10) f_is_whole cd_is_whole)
    {f_is_name : Addr} {cd_is_name : Value} (h_is_name : DefIn K "is_name" (top 11) f_is_name cd_is_name)
    {f_is_short : Addr} {cd_is_short : Value} (h_is_short : DefIn K "is_short" (top 12) f_is_short cd_is_short)
    {f_is_tuple_of : Addr} {cd_is_tuple_of : Value} (h_is_tuple_of : DefIn K "is_tuple_of" (top 13) f_is_tuple_of cd_is_tuple_of)
    {f_are_in_order : Addr} {cd_are_in_order : Value} (h_are_in_order : DefIn K "are_in_order" (top 14) f_are_in_order cd_are_in_order)
    {f_are_unlike : Addr} {cd_are_unlike : Value} (h_are_unlike : DefIn K "are_unlike" (top 15) f_are_unlike cd_are_unlike)
    {f_is_tie_kind : Addr} {cd_is_tie_kind : Value} (h_is_tie_kind : DefIn K "is_tie_kind" (top 21) f_is_tie_kind cd_is_tie_kind)
    {f_is_kinds_value : Addr} {cd_is_kinds_value : Value} (h_is_kinds_value : DefIn K "is_kinds_value" (top 22) f_is_kinds_value cd_is_kinds_value)
    {f_need_kinds : Addr} {cd_need_kinds : Value} (h_need_kinds : DefIn K "need_kinds" (top 23) f_need_kinds cd_need_kinds)
    {f_ends_of : Addr} {cd_ends_of : Value} (h_ends_of : DefIn K "ends_of" (top 24) f_ends_of cd_ends_of)
    {f_size_of : Addr} {cd_size_of : Value} (h_size_of : DefIn K "size_of" (top 25) f_size_of cd_size_of)
    {f_is_tie_over : Addr} {cd_is_tie_over : Value} (h_is_tie_over : DefIn K "is_tie_over" (top 29) f_is_tie_over cd_is_tie_over)
    {f_are_ties_over : Addr} {cd_are_ties_over : Value} (h_are_ties_over : DefIn K "are_ties_over" (top 30) f_are_ties_over cd_are_ties_over)
    {f_is_pattern_value : Addr} {cd_is_pattern_value : Value} (h_is_pattern_value : DefIn K "is_pattern_value" (top 31) f_is_pattern_value cd_is_pattern_value)
    {f_need_pattern : Addr} {cd_need_pattern : Value} (h_need_pattern : DefIn K "need_pattern" (top 32) f_need_pattern cd_need_pattern)
    {f_maps_of : Addr} {cd_maps_of : Value} (h_maps_of : DefIn K "maps_of" (top 35) f_maps_of cd_maps_of)
    {f_images_of : Addr} {cd_images_of : Value} (h_images_of : DefIn K "images_of" (top 36) f_images_of cd_images_of)
    {f_is_map : Addr} {cd_is_map : Value} (h_is_map : DefIn K "is_map" (top 37) f_is_map cd_is_map)
    {f_need_patterns : Addr} {cd_need_patterns : Value} (h_need_patterns : DefIn K "need_patterns" (top 38) f_need_patterns cd_need_patterns)
    {f_need_map : Addr} {cd_need_map : Value} (h_need_map : DefIn K "need_map" (top 39) f_need_map cd_need_map)
    {f_maps : Addr} {cd_maps : Value} (h_maps : DefIn K "maps" (top 40) f_maps cd_maps)
    {f_images : Addr} {cd_images : Value} (h_images : DefIn K "images" (top 41) f_images cd_images)
    {f__law_deck : Addr} {cd__law_deck : Value} (h__law_deck : DefIn K "_law_deck" (top 43) f__law_deck cd__law_deck)
    {f__law_draw : Addr} {cd__law_draw : Value} (h__law_draw : DefIn K "_law_draw" (top 44) f__law_draw cd__law_draw)
    {f__law_pick : Addr} {cd__law_pick : Value} (h__law_pick : DefIn K "_law_pick" (top 45) f__law_pick cd__law_pick)
    {f__law_mixed : Addr} {cd__law_mixed : Value} (h__law_mixed : DefIn K "_law_mixed" (top 46) f__law_mixed cd__law_mixed)
    {f__law_same : Addr} {cd__law_same : Value} (h__law_same : DefIn K "_law_same" (top 47) f__law_same cd__law_same)
    {f__law_is_whole : Addr} {cd__law_is_whole : Value} (h__law_is_whole : DefIn K "_law_is_whole" (top 48) f__law_is_whole cd__law_is_whole)
    {f__law_kinds : Addr} {cd__law_kinds : Value} (h__law_kinds : DefIn K "_law_kinds" (top 49) f__law_kinds cd__law_kinds)
    {f__law_pattern : Addr} {cd__law_pattern : Value} (h__law_pattern : DefIn K "_law_pattern" (top 50) f__law_pattern cd__law_pattern)
    {f__law_maps : Addr} {cd__law_maps : Value} (h__law_maps : DefIn K "_law_maps" (top 51) f__law_maps cd__law_maps)
    {f__law_image : Addr} {cd__law_image : Value} (h__law_image : DefIn K "_law_image" (top 52) f__law_image cd__law_image)
    {f__law_heard : Addr} {cd__law_heard : Value} (h__law_heard : DefIn K "_law_heard" (top 53) f__law_heard cd__law_heard)
    {f__law_many : Addr} {cd__law_many : Value} (h__law_many : DefIn K "_law_many" (top 54) f__law_many cd__law_many)
    {f__law_no_map : Addr} {cd__law_no_map : Value} (h__law_no_map : DefIn K "_law_no_map" (top 55) f__law_no_map cd__law_no_map)
    {f__law_is_map : Addr} {cd__law_is_map : Value} (h__law_is_map : DefIn K "_law_is_map" (top 56) f__law_is_map cd__law_is_map)
    {f_law : Addr} (h_law : DefIn K "law" (top 57) f_law (.ref c_law))
    {t_LETTERS : Tok} (g_LETTERS : PySem.W.nsIn K mainGlobals "LETTERS" = some (some (.str "abcdefghijklmnopqrstuvwxyz" t_LETTERS)))
    {t_FIGURES : Tok} (g_FIGURES : PySem.W.nsIn K mainGlobals "FIGURES" = some (some (.str "0123456789" t_FIGURES)))
    {t_LONGEST : Tok} (g_LONGEST : PySem.W.nsIn K mainGlobals "LONGEST" = some (some (.int (12) t_LONGEST)))
    {t_MOST_PARTS : Tok} (g_MOST_PARTS : PySem.W.nsIn K mainGlobals "MOST_PARTS" = some (some (.int (20000) t_MOST_PARTS)))
    {t_PAIR_kinds : Tok} (g_PAIR_kinds : PySem.W.nsIn K mainGlobals "PAIR_kinds" = some (some (.int (2) t_PAIR_kinds)))
    {t_TRIPLE : Tok} (g_TRIPLE : PySem.W.nsIn K mainGlobals "TRIPLE" = some (some (.int (3) t_TRIPLE)))
    {t_MOST_ENDS : Tok} (g_MOST_ENDS : PySem.W.nsIn K mainGlobals "MOST_ENDS" = some (some (.int (3) t_MOST_ENDS)))
    {t_MOST_SIZE : Tok} (g_MOST_SIZE : PySem.W.nsIn K mainGlobals "MOST_SIZE" = some (some (.int (8) t_MOST_SIZE)))
    {t_TIE_PARTS : Tok} (g_TIE_PARTS : PySem.W.nsIn K mainGlobals "TIE_PARTS" = some (some (.int (3) t_TIE_PARTS)))
    {t_PAIR_patterns : Tok} (g_PAIR_patterns : PySem.W.nsIn K mainGlobals "PAIR_patterns" = some (some (.int (2) t_PAIR_patterns)))
    {t_OUTSIDE : Tok} (g_OUTSIDE : PySem.W.nsIn K mainGlobals "OUTSIDE" = some (some (.int (-1) t_OUTSIDE)))
    (n_abs : PySem.W.nsIn K mainGlobals "abs" = some none)
    (n_all : PySem.W.nsIn K mainGlobals "all" = some none)
    (n_any : PySem.W.nsIn K mainGlobals "any" = some none)
    (n_bool : PySem.W.nsIn K mainGlobals "bool" = some none)
    (n_dict : PySem.W.nsIn K mainGlobals "dict" = some none)
    (n_enumerate : PySem.W.nsIn K mainGlobals "enumerate" = some none)
    (n_int : PySem.W.nsIn K mainGlobals "int" = some none)
    (n_isinstance : PySem.W.nsIn K mainGlobals "isinstance" = some none)
    (n_len : PySem.W.nsIn K mainGlobals "len" = some none)
    (n_list : PySem.W.nsIn K mainGlobals "list" = some none)
    (n_max : PySem.W.nsIn K mainGlobals "max" = some none)
    (n_min : PySem.W.nsIn K mainGlobals "min" = some none)
    (n_range : PySem.W.nsIn K mainGlobals "range" = some none)
    (n_repr : PySem.W.nsIn K mainGlobals "repr" = some none)
    (n_set : PySem.W.nsIn K mainGlobals "set" = some none)
    (n_sorted : PySem.W.nsIn K mainGlobals "sorted" = some none)
    (n_str : PySem.W.nsIn K mainGlobals "str" = some none)
    (n_sum : PySem.W.nsIn K mainGlobals "sum" = some none)
    (n_super : PySem.W.nsIn K mainGlobals "super" = some none)
    (n_tuple : PySem.W.nsIn K mainGlobals "tuple" = some none)
    (n_zip : PySem.W.nsIn K mainGlobals "zip" = some none)
    {fI : Addr}
    {C_WebError : Addr} (q_WebError : PySem.W.nsIn K mainGlobals "WebError" = some (some (.ref C_WebError)))
    {C_BadKinds : Addr} (q_BadKinds : PySem.W.nsIn K mainGlobals "BadKinds" = some (some (.ref C_BadKinds)))
    {C_BadPattern : Addr} (q_BadPattern : PySem.W.nsIn K mainGlobals "BadPattern" = some (some (.ref C_BadPattern)))
    {C_BadFit : Addr} (q_BadFit : PySem.W.nsIn K mainGlobals "BadFit" = some (some (.ref C_BadFit)))
    (y_WebError : XcC K C_WebError C_WebError fI)
    (y_BadKinds : XcC K C_BadKinds C_WebError fI)
    (y_BadPattern : XcC K C_BadPattern C_WebError fI)
    (y_BadFit : XcC K C_BadFit C_WebError fI)
    (s_BadKinds : XcS K C_BadKinds)
    (s_BadPattern : XcS K C_BadPattern)
    (s_BadFit : XcS K C_BadFit)
    (xf : XcF P K C_WebError fI)
    (em_BadKinds_BadFit : PySem.W.exmOne K (.ref C_BadKinds) (.ref C_BadFit) = some false)
    (em_BadKinds_BadKinds : PySem.W.exmOne K (.ref C_BadKinds) (.ref C_BadKinds) = some true)
    (em_BadKinds_BadPattern : PySem.W.exmOne K (.ref C_BadKinds) (.ref C_BadPattern) = some false)
    (em_BadPattern_BadFit : PySem.W.exmOne K (.ref C_BadPattern) (.ref C_BadFit) = some false)
    (em_BadPattern_BadKinds : PySem.W.exmOne K (.ref C_BadPattern) (.ref C_BadKinds) = some false)
    (em_BadPattern_BadPattern : PySem.W.exmOne K (.ref C_BadPattern) (.ref C_BadPattern) = some true)
    (em_BadFit_BadFit : PySem.W.exmOne K (.ref C_BadFit) (.ref C_BadFit) = some true)
    (em_BadFit_BadKinds : PySem.W.exmOne K (.ref C_BadFit) (.ref C_BadKinds) = some false)
    (em_BadFit_BadPattern : PySem.W.exmOne K (.ref C_BadFit) (.ref C_BadPattern) = some false)
    (ki_BadKinds_WebError : PySem.W.kitOne K (.ref C_BadKinds) (.ref C_WebError) = some true)
    (ki_BadPattern_WebError : PySem.W.kitOne K (.ref C_BadPattern) (.ref C_WebError) = some true)
    (ki_BadFit_WebError : PySem.W.kitOne K (.ref C_BadFit) (.ref C_WebError) = some true) :
    ∃ T : Pg P K mg, T.d_law.f = f_law ∧ T.l_law_c = c_law ∧ T.l_law_P = P_law ∧ ∀ (s : Shared) (u : Value), BindsTo s T.d_law.fd ⟨[u], []⟩ [("script", u)] := by
  obtain ⟨e_is_whole, ef_is_whole, ec_is_whole, ed_is_whole⟩ := DefIn.exK (ps := ["thing", "low", "high"]) X G h_is_whole (fun _ _ _ _ _ _ us hl => match us, hl with | [_, _, _], _ => rfl)
  obtain ⟨e_is_name, ef_is_name, ec_is_name, ed_is_name⟩ := DefIn.exK (ps := ["thing"]) X G h_is_name (fun _ _ _ _ _ _ us hl => match us, hl with | [_], _ => rfl)
  obtain ⟨e_is_short, ef_is_short, ec_is_short, ed_is_short⟩ := DefIn.exK (ps := ["thing"]) X G h_is_short (fun _ _ _ _ _ _ us hl => match us, hl with | [_], _ => rfl)
  obtain ⟨e_is_tuple_of, ef_is_tuple_of, ec_is_tuple_of, ed_is_tuple_of⟩ := DefIn.exK (ps := ["thing", "look"]) X G h_is_tuple_of (fun _ _ _ _ _ _ us hl => match us, hl with | [_, _], _ => rfl)
  obtain ⟨e_are_in_order, ef_are_in_order, ec_are_in_order, ed_are_in_order⟩ := DefIn.exK (ps := ["row"]) X G h_are_in_order (fun _ _ _ _ _ _ us hl => match us, hl with | [_], _ => rfl)
  obtain ⟨e_are_unlike, ef_are_unlike, ec_are_unlike, ed_are_unlike⟩ := DefIn.exK (ps := ["row"]) X G h_are_unlike (fun _ _ _ _ _ _ us hl => match us, hl with | [_], _ => rfl)
  obtain ⟨e_is_tie_kind, ef_is_tie_kind, ec_is_tie_kind, ed_is_tie_kind⟩ := DefIn.exK (ps := ["places", "thing"]) X G h_is_tie_kind (fun _ _ _ _ _ _ us hl => match us, hl with | [_, _], _ => rfl)
  obtain ⟨e_is_kinds_value, ef_is_kinds_value, ec_is_kinds_value, ed_is_kinds_value⟩ := DefIn.exK (ps := ["thing"]) X G h_is_kinds_value (fun _ _ _ _ _ _ us hl => match us, hl with | [_], _ => rfl)
  obtain ⟨e_need_kinds, ef_need_kinds, ec_need_kinds, ed_need_kinds⟩ := DefIn.exK (ps := ["kinds"]) X G h_need_kinds (fun _ _ _ _ _ _ us hl => match us, hl with | [_], _ => rfl)
  obtain ⟨e_ends_of, ef_ends_of, ec_ends_of, ed_ends_of⟩ := DefIn.exK (ps := ["kinds", "kind"]) X G h_ends_of (fun _ _ _ _ _ _ us hl => match us, hl with | [_, _], _ => rfl)
  obtain ⟨e_size_of, ef_size_of, ec_size_of, ed_size_of⟩ := DefIn.exK (ps := ["kinds", "kind"]) X G h_size_of (fun _ _ _ _ _ _ us hl => match us, hl with | [_, _], _ => rfl)
  obtain ⟨e_is_tie_over, ef_is_tie_over, ec_is_tie_over, ed_is_tie_over⟩ := DefIn.exK (ps := ["kinds", "places", "thing"]) X G h_is_tie_over (fun _ _ _ _ _ _ us hl => match us, hl with | [_, _, _], _ => rfl)
  obtain ⟨e_are_ties_over, ef_are_ties_over, ec_are_ties_over, ed_are_ties_over⟩ := DefIn.exK (ps := ["kinds", "places", "thing"]) X G h_are_ties_over (fun _ _ _ _ _ _ us hl => match us, hl with | [_, _, _], _ => rfl)
  obtain ⟨e_is_pattern_value, ef_is_pattern_value, ec_is_pattern_value, ed_is_pattern_value⟩ := DefIn.exK (ps := ["kinds", "thing"]) X G h_is_pattern_value (fun _ _ _ _ _ _ us hl => match us, hl with | [_, _], _ => rfl)
  obtain ⟨e_need_pattern, ef_need_pattern, ec_need_pattern, ed_need_pattern⟩ := DefIn.exK (ps := ["kinds", "pattern"]) X G h_need_pattern (fun _ _ _ _ _ _ us hl => match us, hl with | [_, _], _ => rfl)
  obtain ⟨e_maps_of, ef_maps_of, ec_maps_of, ed_maps_of⟩ := DefIn.exK (ps := ["places", "others"]) X G h_maps_of (fun _ _ _ _ _ _ us hl => match us, hl with | [_, _], _ => rfl)
  obtain ⟨e_images_of, ef_images_of, ec_images_of, ed_images_of⟩ := DefIn.exK (ps := ["one", "other", "onto"]) X G h_images_of (fun _ _ _ _ _ _ us hl => match us, hl with | [_, _, _], _ => rfl)
  obtain ⟨e_is_map, ef_is_map, ec_is_map, ed_is_map⟩ := DefIn.exK (ps := ["one", "other", "thing"]) X G h_is_map (fun _ _ _ _ _ _ us hl => match us, hl with | [_, _, _], _ => rfl)
  obtain ⟨e_need_patterns, ef_need_patterns, ec_need_patterns, ed_need_patterns⟩ := DefIn.exK (ps := ["kinds", "one", "other"]) X G h_need_patterns (fun _ _ _ _ _ _ us hl => match us, hl with | [_, _, _], _ => rfl)
  obtain ⟨e_need_map, ef_need_map, ec_need_map, ed_need_map⟩ := DefIn.exK (ps := ["kinds", "one", "other", "onto"]) X G h_need_map (fun _ _ _ _ _ _ us hl => match us, hl with | [_, _, _, _], _ => rfl)
  obtain ⟨e_maps, ef_maps, ec_maps, ed_maps⟩ := DefIn.exK (ps := ["kinds", "one", "other"]) X G h_maps (fun _ _ _ _ _ _ us hl => match us, hl with | [_, _, _], _ => rfl)
  obtain ⟨e_images, ef_images, ec_images, ed_images⟩ := DefIn.exK (ps := ["kinds", "one", "other", "onto"]) X G h_images (fun _ _ _ _ _ _ us hl => match us, hl with | [_, _, _, _], _ => rfl)
  obtain ⟨e__law_deck, ef__law_deck, ec__law_deck, ed__law_deck⟩ := DefIn.exK (ps := ["script"]) X G h__law_deck (fun _ _ _ _ _ _ us hl => match us, hl with | [_], _ => rfl)
  obtain ⟨e__law_draw, ef__law_draw, ec__law_draw, ed__law_draw⟩ := DefIn.exK (ps := ["deck", "many"]) X G h__law_draw (fun _ _ _ _ _ _ us hl => match us, hl with | [_, _], _ => rfl)
  obtain ⟨e__law_pick, ef__law_pick, ec__law_pick, ed__law_pick⟩ := DefIn.exK (ps := ["deck", "some"]) X G h__law_pick (fun _ _ _ _ _ _ us hl => match us, hl with | [_, _], _ => rfl)
  obtain ⟨e__law_mixed, ef__law_mixed, ec__law_mixed, ed__law_mixed⟩ := DefIn.exK (ps := ["deck", "some"]) X G h__law_mixed (fun _ _ _ _ _ _ us hl => match us, hl with | [_, _], _ => rfl)
  obtain ⟨e__law_same, ef__law_same, ec__law_same, ed__law_same⟩ := DefIn.exK (ps := ["told", "due"]) X G h__law_same (fun _ _ _ _ _ _ us hl => match us, hl with | [_, _], _ => rfl)
  obtain ⟨e__law_is_whole, ef__law_is_whole, ec__law_is_whole, ed__law_is_whole⟩ := DefIn.exK (ps := ["thing"]) X G h__law_is_whole (fun _ _ _ _ _ _ us hl => match us, hl with | [_], _ => rfl)
  obtain ⟨e__law_kinds, ef__law_kinds, ec__law_kinds, ed__law_kinds⟩ := DefIn.exK (ps := ["deck"]) X G h__law_kinds (fun _ _ _ _ _ _ us hl => match us, hl with | [_], _ => rfl)
  obtain ⟨e__law_pattern, ef__law_pattern, ec__law_pattern, ed__law_pattern⟩ := DefIn.exK (ps := ["deck", "kinds", "many", "most"]) X G h__law_pattern (fun _ _ _ _ _ _ us hl => match us, hl with | [_, _, _, _], _ => rfl)
  obtain ⟨e__law_maps, ef__law_maps, ec__law_maps, ed__law_maps⟩ := DefIn.exK (ps := ["one", "other"]) X G h__law_maps (fun _ _ _ _ _ _ us hl => match us, hl with | [_, _], _ => rfl)
  obtain ⟨e__law_image, ef__law_image, ec__law_image, ed__law_image⟩ := DefIn.exK (ps := ["one", "other", "onto"]) X G h__law_image (fun _ _ _ _ _ _ us hl => match us, hl with | [_, _, _], _ => rfl)
  obtain ⟨e__law_heard, ef__law_heard, ec__law_heard, ed__law_heard⟩ := DefIn.exK (ps := ["call"]) X G h__law_heard (fun _ _ _ _ _ _ us hl => match us, hl with | [_], _ => rfl)
  obtain ⟨e__law_many, ef__law_many, ec__law_many, ed__law_many⟩ := DefIn.exK (ps := ["one", "other"]) X G h__law_many (fun _ _ _ _ _ _ us hl => match us, hl with | [_, _], _ => rfl)
  obtain ⟨e__law_no_map, ef__law_no_map, ec__law_no_map, ed__law_no_map⟩ := DefIn.exK (ps := ["deck", "one", "other"]) X G h__law_no_map (fun _ _ _ _ _ _ us hl => match us, hl with | [_, _, _], _ => rfl)
  obtain ⟨e__law_is_map, ef__law_is_map, ec__law_is_map, ed__law_is_map⟩ := DefIn.exK (ps := ["due", "thing"]) X G h__law_is_map (fun _ _ _ _ _ _ us hl => match us, hl with | [_, _], _ => rfl)
  obtain ⟨e_law, ef_law, ec_law, ed_law⟩ := DefIn.exK (ps := ["script"]) X G h_law (fun _ _ _ _ _ _ us hl => match us, hl with | [_], _ => rfl)
  refine ⟨{ d_is_whole := e_is_whole, d_is_name := e_is_name, d_is_short := e_is_short, d_is_tuple_of := e_is_tuple_of, d_are_in_order := e_are_in_order, d_are_unlike := e_are_unlike, d_is_tie_kind := e_is_tie_kind, d_is_kinds_value := e_is_kinds_value, d_need_kinds := e_need_kinds, d_ends_of := e_ends_of, d_size_of := e_size_of, d_is_tie_over := e_is_tie_over, d_are_ties_over := e_are_ties_over, d_is_pattern_value := e_is_pattern_value, d_need_pattern := e_need_pattern, d_maps_of := e_maps_of, d_images_of := e_images_of, d_is_map := e_is_map, d_need_patterns := e_need_patterns, d_need_map := e_need_map, d_maps := e_maps, d_images := e_images, d__law_deck := e__law_deck, d__law_draw := e__law_draw, d__law_pick := e__law_pick, d__law_mixed := e__law_mixed, d__law_same := e__law_same, d__law_is_whole := e__law_is_whole, d__law_kinds := e__law_kinds, d__law_pattern := e__law_pattern, d__law_maps := e__law_maps, d__law_image := e__law_image, d__law_heard := e__law_heard, d__law_many := e__law_many, d__law_no_map := e__law_no_map, d__law_is_map := e__law_is_map, d_law := e_law, c_LETTERS := ⟨_, PySem.W.mg_of X G g_LETTERS⟩, c_FIGURES := ⟨_, PySem.W.mg_of X G g_FIGURES⟩, c_LONGEST := ⟨_, PySem.W.mg_of X G g_LONGEST⟩, c_MOST_PARTS := ⟨_, PySem.W.mg_of X G g_MOST_PARTS⟩, c_PAIR_kinds := ⟨_, PySem.W.mg_of X G g_PAIR_kinds⟩, c_TRIPLE := ⟨_, PySem.W.mg_of X G g_TRIPLE⟩, c_MOST_ENDS := ⟨_, PySem.W.mg_of X G g_MOST_ENDS⟩, c_MOST_SIZE := ⟨_, PySem.W.mg_of X G g_MOST_SIZE⟩, c_TIE_PARTS := ⟨_, PySem.W.mg_of X G g_TIE_PARTS⟩, c_PAIR_patterns := ⟨_, PySem.W.mg_of X G g_PAIR_patterns⟩, c_OUTSIDE := ⟨_, PySem.W.mg_of X G g_OUTSIDE⟩, z_abs := PySem.W.mg_none_of X G n_abs, z_all := PySem.W.mg_none_of X G n_all, z_any := PySem.W.mg_none_of X G n_any, z_bool := PySem.W.mg_none_of X G n_bool, z_dict := PySem.W.mg_none_of X G n_dict, z_enumerate := PySem.W.mg_none_of X G n_enumerate, z_int := PySem.W.mg_none_of X G n_int, z_isinstance := PySem.W.mg_none_of X G n_isinstance, z_len := PySem.W.mg_none_of X G n_len, z_list := PySem.W.mg_none_of X G n_list, z_max := PySem.W.mg_none_of X G n_max, z_min := PySem.W.mg_none_of X G n_min, z_range := PySem.W.mg_none_of X G n_range, z_repr := PySem.W.mg_none_of X G n_repr, z_set := PySem.W.mg_none_of X G n_set, z_sorted := PySem.W.mg_none_of X G n_sorted, z_str := PySem.W.mg_none_of X G n_str, z_sum := PySem.W.mg_none_of X G n_sum, z_super := PySem.W.mg_none_of X G n_super, z_tuple := PySem.W.mg_none_of X G n_tuple, z_zip := PySem.W.mg_none_of X G n_zip, k_images_3_2_1_0 := ?_, k_maps_2_1_0 := ?_, rt := C_WebError, fI := fI, xf := xf, x_WebError := ⟨C_WebError, y_WebError, PySem.W.mg_of X G q_WebError⟩, x_BadKinds := ⟨C_BadKinds, y_BadKinds, PySem.W.mg_of X G q_BadKinds⟩, x_BadPattern := ⟨C_BadPattern, y_BadPattern, PySem.W.mg_of X G q_BadPattern⟩, x_BadFit := ⟨C_BadFit, y_BadFit, PySem.W.mg_of X G q_BadFit⟩, xs_BadKinds := s_BadKinds, xs_BadPattern := s_BadPattern, xs_BadFit := s_BadFit, em_BadKinds_BadFit := em_BadKinds_BadFit, em_BadKinds_BadKinds := em_BadKinds_BadKinds, em_BadKinds_BadPattern := em_BadKinds_BadPattern, em_BadPattern_BadFit := em_BadPattern_BadFit, em_BadPattern_BadKinds := em_BadPattern_BadKinds, em_BadPattern_BadPattern := em_BadPattern_BadPattern, em_BadFit_BadFit := em_BadFit_BadFit, em_BadFit_BadKinds := em_BadFit_BadKinds, em_BadFit_BadPattern := em_BadFit_BadPattern, ki_BadKinds_WebError := ki_BadKinds_WebError, ki_BadPattern_WebError := ki_BadPattern_WebError, ki_BadFit_WebError := ki_BadFit_WebError, l_law_c := c_law, l_law_P := P_law, l_law_code := ec_law }, ef_law, rfl, rfl, ?_⟩
  · obtain ⟨kV, doc, pm, an, ct, e⟩ := ed_images; rw [e]; exact fun s ws _ hl => match ws, hl with | [_, _, _, _], _ => .of_eq rfl
  · obtain ⟨kV, doc, pm, an, ct, e⟩ := ed_maps; rw [e]; exact fun s ws _ hl => match ws, hl with | [_, _, _], _ => .of_eq rfl
  · obtain ⟨kV, doc, pm, an, ct, e⟩ := ed_law; intro s u; show BindsTo s e_law.fd _ _; rw [e]; exact .of_eq rfl
theorem pg_with {goal : Prop} {c_law : Addr} (P_law : Addr) (X : K.In h) (G : h.Ns mainGlobals mg)
    {f_is_whole : Addr} {cd_is_whole : Value} (h_is_whole : DefIn K "is_whole" (top 10) f_is_whole cd_is_whole)
    {f_is_name : Addr} {cd_is_name : Value} (h_is_name : DefIn K "is_name" (top 11) f_is_name cd_is_name)
    {f_is_short : Addr} {cd_is_short : Value} (h_is_short : DefIn K "is_short" (top 12) f_is_short cd_is_short)
    {f_is_tuple_of : Addr} {cd_is_tuple_of : Value} (h_is_tuple_of : DefIn K "is_tuple_of" (top 13) f_is_tuple_of cd_is_tuple_of)
    {f_are_in_order : Addr} {cd_are_in_order : Value} (h_are_in_order : DefIn K "are_in_order" (top 14) f_are_in_order cd_are_in_order)
    {f_are_unlike : Addr} {cd_are_unlike : Value} (h_are_unlike : DefIn K "are_unlike" (top 15) f_are_unlike cd_are_unlike)
    {f_is_tie_kind : Addr} {cd_is_tie_kind : Value} (h_is_tie_kind : DefIn K "is_tie_kind" (top 21) f_is_tie_kind cd_is_tie_kind)
    {f_is_kinds_value : Addr} {cd_is_kinds_value : Value} (h_is_kinds_value : DefIn K "is_kinds_value" (top 22) f_is_kinds_value cd_is_kinds_value)
    {f_need_kinds : Addr} {cd_need_kinds : Value} (h_need_kinds : DefIn K "need_kinds" (top 23) f_need_kinds cd_need_kinds)
    {f_ends_of : Addr} {cd_ends_of : Value} (h_ends_of : DefIn K "ends_of" (top 24) f_ends_of cd_ends_of)
    {f_size_of : Addr} {cd_size_of : Value} (h_size_of : DefIn K "size_of" (top 25) f_size_of cd_size_of)
    {f_is_tie_over : Addr} {cd_is_tie_over : Value} (h_is_tie_over : DefIn K "is_tie_over" (top 29) f_is_tie_over cd_is_tie_over)
    {f_are_ties_over : Addr} {cd_are_ties_over : Value} (h_are_ties_over : DefIn K "are_ties_over" (top 30) f_are_ties_over cd_are_ties_over)
    {f_is_pattern_value : Addr} {cd_is_pattern_value : Value} (h_is_pattern_value : DefIn K "is_pattern_value" (top 31) f_is_pattern_value cd_is_pattern_value)
    {f_need_pattern : Addr} {cd_need_pattern : Value} (h_need_pattern : DefIn K "need_pattern" (top 32) f_need_pattern cd_need_pattern)
    {f_maps_of : Addr} {cd_maps_of : Value} (h_maps_of : DefIn K "maps_of" (top 35) f_maps_of cd_maps_of)
    {f_images_of : Addr} {cd_images_of : Value} (h_images_of : DefIn K "images_of" (top 36) f_images_of cd_images_of)
    {f_is_map : Addr} {cd_is_map : Value} (h_is_map : DefIn K "is_map" (top 37) f_is_map cd_is_map)
    {f_need_patterns : Addr} {cd_need_patterns : Value} (h_need_patterns : DefIn K "need_patterns" (top 38) f_need_patterns cd_need_patterns)
    {f_need_map : Addr} {cd_need_map : Value} (h_need_map : DefIn K "need_map" (top 39) f_need_map cd_need_map)
    {f_maps : Addr} {cd_maps : Value} (h_maps : DefIn K "maps" (top 40) f_maps cd_maps)
    {f_images : Addr} {cd_images : Value} (h_images : DefIn K "images" (top 41) f_images cd_images)
    {f__law_deck : Addr} {cd__law_deck : Value} (h__law_deck : DefIn K "_law_deck" (top 43) f__law_deck cd__law_deck)
    {f__law_draw : Addr} {cd__law_draw : Value} (h__law_draw : DefIn K "_law_draw" (top 44) f__law_draw cd__law_draw)
    {f__law_pick : Addr} {cd__law_pick : Value} (h__law_pick : DefIn K "_law_pick" (top 45) f__law_pick cd__law_pick)
    {f__law_mixed : Addr} {cd__law_mixed : Value} (h__law_mixed : DefIn K "_law_mixed" (top 46) f__law_mixed cd__law_mixed)
    {f__law_same : Addr} {cd__law_same : Value} (h__law_same : DefIn K "_law_same" (top 47) f__law_same cd__law_same)
    {f__law_is_whole : Addr} {cd__law_is_whole : Value} (h__law_is_whole : DefIn K "_law_is_whole" (top 48) f__law_is_whole cd__law_is_whole)
    {f__law_kinds : Addr} {cd__law_kinds : Value} (h__law_kinds : DefIn K "_law_kinds" (top 49) f__law_kinds cd__law_kinds)
    {f__law_pattern : Addr} {cd__law_pattern : Value} (h__law_pattern : DefIn K "_law_pattern" (top 50) f__law_pattern cd__law_pattern)
    {f__law_maps : Addr} {cd__law_maps : Value} (h__law_maps : DefIn K "_law_maps" (top 51) f__law_maps cd__law_maps)
    {f__law_image : Addr} {cd__law_image : Value} (h__law_image : DefIn K "_law_image" (top 52) f__law_image cd__law_image)
    {f__law_heard : Addr} {cd__law_heard : Value} (h__law_heard : DefIn K "_law_heard" (top 53) f__law_heard cd__law_heard)
    {f__law_many : Addr} {cd__law_many : Value} (h__law_many : DefIn K "_law_many" (top 54) f__law_many cd__law_many)
    {f__law_no_map : Addr} {cd__law_no_map : Value} (h__law_no_map : DefIn K "_law_no_map" (top 55) f__law_no_map cd__law_no_map)
    {f__law_is_map : Addr} {cd__law_is_map : Value} (h__law_is_map : DefIn K "_law_is_map" (top 56) f__law_is_map cd__law_is_map)
    {f_law : Addr} (h_law : DefIn K "law" (top 57) f_law (.ref c_law))
    {t_LETTERS : Tok} (g_LETTERS : PySem.W.nsIn K mainGlobals "LETTERS" = some (some (.str "abcdefghijklmnopqrstuvwxyz" t_LETTERS)))
    {t_FIGURES : Tok} (g_FIGURES : PySem.W.nsIn K mainGlobals "FIGURES" = some (some (.str "0123456789" t_FIGURES)))
    {t_LONGEST : Tok} (g_LONGEST : PySem.W.nsIn K mainGlobals "LONGEST" = some (some (.int (12) t_LONGEST)))
    {t_MOST_PARTS : Tok} (g_MOST_PARTS : PySem.W.nsIn K mainGlobals "MOST_PARTS" = some (some (.int (20000) t_MOST_PARTS)))
    {t_PAIR_kinds : Tok} (g_PAIR_kinds : PySem.W.nsIn K mainGlobals "PAIR_kinds" = some (some (.int (2) t_PAIR_kinds)))
    {t_TRIPLE : Tok} (g_TRIPLE : PySem.W.nsIn K mainGlobals "TRIPLE" = some (some (.int (3) t_TRIPLE)))
    {t_MOST_ENDS : Tok} (g_MOST_ENDS : PySem.W.nsIn K mainGlobals "MOST_ENDS" = some (some (.int (3) t_MOST_ENDS)))
    {t_MOST_SIZE : Tok} (g_MOST_SIZE : PySem.W.nsIn K mainGlobals "MOST_SIZE" = some (some (.int (8) t_MOST_SIZE)))
    {t_TIE_PARTS : Tok} (g_TIE_PARTS : PySem.W.nsIn K mainGlobals "TIE_PARTS" = some (some (.int (3) t_TIE_PARTS)))
    {t_PAIR_patterns : Tok} (g_PAIR_patterns : PySem.W.nsIn K mainGlobals "PAIR_patterns" = some (some (.int (2) t_PAIR_patterns)))
    {t_OUTSIDE : Tok} (g_OUTSIDE : PySem.W.nsIn K mainGlobals "OUTSIDE" = some (some (.int (-1) t_OUTSIDE)))
    (n_abs : PySem.W.nsIn K mainGlobals "abs" = some none)
    (n_all : PySem.W.nsIn K mainGlobals "all" = some none)
    (n_any : PySem.W.nsIn K mainGlobals "any" = some none)
    (n_bool : PySem.W.nsIn K mainGlobals "bool" = some none)
    (n_dict : PySem.W.nsIn K mainGlobals "dict" = some none)
    (n_enumerate : PySem.W.nsIn K mainGlobals "enumerate" = some none)
    (n_int : PySem.W.nsIn K mainGlobals "int" = some none)
    (n_isinstance : PySem.W.nsIn K mainGlobals "isinstance" = some none)
    (n_len : PySem.W.nsIn K mainGlobals "len" = some none)
    (n_list : PySem.W.nsIn K mainGlobals "list" = some none)
    (n_max : PySem.W.nsIn K mainGlobals "max" = some none)
    (n_min : PySem.W.nsIn K mainGlobals "min" = some none)
    (n_range : PySem.W.nsIn K mainGlobals "range" = some none)
    (n_repr : PySem.W.nsIn K mainGlobals "repr" = some none)
    (n_set : PySem.W.nsIn K mainGlobals "set" = some none)
    (n_sorted : PySem.W.nsIn K mainGlobals "sorted" = some none)
    (n_str : PySem.W.nsIn K mainGlobals "str" = some none)
    (n_sum : PySem.W.nsIn K mainGlobals "sum" = some none)
    (n_super : PySem.W.nsIn K mainGlobals "super" = some none)
    (n_tuple : PySem.W.nsIn K mainGlobals "tuple" = some none)
    (n_zip : PySem.W.nsIn K mainGlobals "zip" = some none)
    {fI : Addr}
    {C_WebError : Addr} (q_WebError : PySem.W.nsIn K mainGlobals "WebError" = some (some (.ref C_WebError)))
    {C_BadKinds : Addr} (q_BadKinds : PySem.W.nsIn K mainGlobals "BadKinds" = some (some (.ref C_BadKinds)))
    {C_BadPattern : Addr} (q_BadPattern : PySem.W.nsIn K mainGlobals "BadPattern" = some (some (.ref C_BadPattern)))
    {C_BadFit : Addr} (q_BadFit : PySem.W.nsIn K mainGlobals "BadFit" = some (some (.ref C_BadFit)))
    (y_WebError : XcC K C_WebError C_WebError fI)
    (y_BadKinds : XcC K C_BadKinds C_WebError fI)
    (y_BadPattern : XcC K C_BadPattern C_WebError fI)
    (y_BadFit : XcC K C_BadFit C_WebError fI)
    (s_BadKinds : XcS K C_BadKinds)
    (s_BadPattern : XcS K C_BadPattern)
    (s_BadFit : XcS K C_BadFit)
    (xf : XcF P K C_WebError fI)
    (em_BadKinds_BadFit : PySem.W.exmOne K (.ref C_BadKinds) (.ref C_BadFit) = some false)
    (em_BadKinds_BadKinds : PySem.W.exmOne K (.ref C_BadKinds) (.ref C_BadKinds) = some true)
    (em_BadKinds_BadPattern : PySem.W.exmOne K (.ref C_BadKinds) (.ref C_BadPattern) = some false)
    (em_BadPattern_BadFit : PySem.W.exmOne K (.ref C_BadPattern) (.ref C_BadFit) = some false)
    (em_BadPattern_BadKinds : PySem.W.exmOne K (.ref C_BadPattern) (.ref C_BadKinds) = some false)
    (em_BadPattern_BadPattern : PySem.W.exmOne K (.ref C_BadPattern) (.ref C_BadPattern) = some true)
    (em_BadFit_BadFit : PySem.W.exmOne K (.ref C_BadFit) (.ref C_BadFit) = some true)
    (em_BadFit_BadKinds : PySem.W.exmOne K (.ref C_BadFit) (.ref C_BadKinds) = some false)
    (em_BadFit_BadPattern : PySem.W.exmOne K (.ref C_BadFit) (.ref C_BadPattern) = some false)
    (ki_BadKinds_WebError : PySem.W.kitOne K (.ref C_BadKinds) (.ref C_WebError) = some true)
    (ki_BadPattern_WebError : PySem.W.kitOne K (.ref C_BadPattern) (.ref C_WebError) = some true)
    (ki_BadFit_WebError : PySem.W.kitOne K (.ref C_BadFit) (.ref C_WebError) = some true)
    (next : ∀ T : Pg P K mg, T.d_law.f = f_law → T.l_law_c = c_law → T.l_law_P = P_law → (∀ (s : Shared) (u : Value), BindsTo s T.d_law.fd ⟨[u], []⟩ [("script", u)]) → goal) : goal := by
  obtain ⟨T, e1, e2, e3, e4⟩ := pg_all P_law X G h_is_whole h_is_name h_is_short h_is_tuple_of h_are_in_order h_are_unlike h_is_tie_kind h_is_kinds_value h_need_kinds h_ends_of h_size_of h_is_tie_over h_are_ties_over h_is_pattern_value h_need_pattern h_maps_of h_images_of h_is_map h_need_patterns h_need_map h_maps h_images h__law_deck h__law_draw h__law_pick h__law_mixed h__law_same h__law_is_whole h__law_kinds h__law_pattern h__law_maps h__law_image h__law_heard h__law_many h__law_no_map h__law_is_map h_law g_LETTERS g_FIGURES g_LONGEST g_MOST_PARTS g_PAIR_kinds g_TRIPLE g_MOST_ENDS g_MOST_SIZE g_TIE_PARTS g_PAIR_patterns g_OUTSIDE n_abs n_all n_any n_bool n_dict n_enumerate n_int n_isinstance n_len n_list n_max n_min n_range n_repr n_set n_sorted n_str n_sum n_super n_tuple n_zip q_WebError q_BadKinds q_BadPattern q_BadFit y_WebError y_BadKinds y_BadPattern y_BadFit s_BadKinds s_BadPattern s_BadFit xf em_BadKinds_BadFit em_BadKinds_BadKinds em_BadKinds_BadPattern em_BadPattern_BadFit em_BadPattern_BadKinds em_BadPattern_BadPattern em_BadFit_BadFit em_BadFit_BadKinds em_BadFit_BadPattern ki_BadKinds_WebError ki_BadPattern_WebError ki_BadFit_WebError
  exact next T e1 e2 e3 e4
/-- what is left behind the head -/
theorem law_end {l : PySem.W.OpenLaw} {w : World} {fa : Addr} (T : Pg l.prog K mg) (X : K.In h) (hfa : T.d_law.f = fa) (hb : ∀ (s : Shared) (u : Value), BindsTo s T.d_law.fd ⟨[u], []⟩ [("script", u)]) (hT : h.get? T.l_law_P = some tabObj) (hN : K.lookup T.l_law_P = none) (hC : PySem.W.CodeHd h T.l_law_c T.l_law_P) : LawClr l w K 11 63 "script" mg fa h := by
  refine ⟨T.d_law.fd, [(T.l_law_c, T.l_law_P)], spG ⟨K, mg, Tabs (T_law T), tabs_stab⟩ 1 G_law, fun p hp => ?_, hb, fun H a ns hl _ hH hS => ?_, fun base KB GB TB => ?_⟩
  · rw [List.mem_singleton.mp hp]; exact ⟨hT, hN, hC⟩
  · refine start_ok (fun p hp => ?_) hS (Nat.le_trans hl (by decide)) ?_
    · rw [List.mem_singleton.mp hp]
      exact ⟨#[], hH _ (List.mem_singleton.mpr rfl), (by first | trivial | constructor), fun _ _ e => by cases e⟩
    · obtain ⟨d, ρ, M', e, rfl⟩ := (law_ok ns).is
      exact ⟨ρ, M', e⟩
  · rw [← hfa]
    exact ok_law T (TB _ (List.mem_singleton.mpr rfl))
end
end Dn
open PySem PySem.W PyProof.Rows in
set_option maxRecDepth 100000 in
set_option maxHeartbeats 0 in
theorem PySem.Challenge.cw_rulesonwebs_k07_whole_maps_each_once_by_holds : PySem.Challenge.rw_rulesonwebs_k07_whole_maps_each_once_by.Holds := by
  w_on; o_law; k_head; (case hw => w_witness2)
  k_fill
  refine Dn.walk_clr (l := PySem.Challenge.rw_rulesonwebs_k07_whole_maps_each_once_by) (n := 63) (k := 11) (x := "script") rfl (by decide) rfl ⟨rfl, by decide, by decide⟩ (fun w h Y => PySem.W.km_in_of Y) ?F
  case F =>
    intro w mg fa h Y KX G hmg tabs
    refine' Dn.with_def (x := "is_whole") (st := Dn.top 10) KX ?a ?l ?c ?k ?_
    (case a => k_is)
    (case l => k_is)
    (case c => k_is)
    (case k => k_is)
    intro hd_is_whole
    refine' Dn.with_def (x := "is_name") (st := Dn.top 11) KX ?a ?l ?c ?k ?_
    (case a => k_is)
    (case l => k_is)
    (case c => k_is)
    (case k => k_is)
    intro hd_is_name
    refine' Dn.with_def (x := "is_short") (st := Dn.top 12) KX ?a ?l ?c ?k ?_
    (case a => k_is)
    (case l => k_is)
    (case c => k_is)
    (case k => k_is)
    intro hd_is_short
    refine' Dn.with_def (x := "is_tuple_of") (st := Dn.top 13) KX ?a ?l ?c ?k ?_
    (case a => k_is)
    (case l => k_is)
    (case c => k_is)
    (case k => k_is)
    intro hd_is_tuple_of
    refine' Dn.with_def (x := "are_in_order") (st := Dn.top 14) KX ?a ?l ?c ?k ?_
    (case a => k_is)
    (case l => k_is)
    (case c => k_is)
    (case k => k_is)
    intro hd_are_in_order
    refine' Dn.with_def (x := "are_unlike") (st := Dn.top 15) KX ?a ?l ?c ?k ?_
    (case a => k_is)
    (case l => k_is)
    (case c => k_is)
    (case k => k_is)
    intro hd_are_unlike
    refine' Dn.with_def (x := "is_tie_kind") (st := Dn.top 21) KX ?a ?l ?c ?k ?_
    (case a => k_is)
    (case l => k_is)
    (case c => k_is)
    (case k => k_is)
    intro hd_is_tie_kind
    refine' Dn.with_def (x := "is_kinds_value") (st := Dn.top 22) KX ?a ?l ?c ?k ?_
    (case a => k_is)
    (case l => k_is)
    (case c => k_is)
    (case k => k_is)
    intro hd_is_kinds_value
    refine' Dn.with_def (x := "need_kinds") (st := Dn.top 23) KX ?a ?l ?c ?k ?_
    (case a => k_is)
    (case l => k_is)
    (case c => k_is)
    (case k => k_is)
    intro hd_need_kinds
    refine' Dn.with_def (x := "ends_of") (st := Dn.top 24) KX ?a ?l ?c ?k ?_
    (case a => k_is)
    (case l => k_is)
    (case c => k_is)
    (case k => k_is)
    intro hd_ends_of
    refine' Dn.with_def (x := "size_of") (st := Dn.top 25) KX ?a ?l ?c ?k ?_
    (case a => k_is)
    (case l => k_is)
    (case c => k_is)
    (case k => k_is)
    intro hd_size_of
    refine' Dn.with_def (x := "is_tie_over") (st := Dn.top 29) KX ?a ?l ?c ?k ?_
    (case a => k_is)
    (case l => k_is)
    (case c => k_is)
    (case k => k_is)
    intro hd_is_tie_over
    refine' Dn.with_def (x := "are_ties_over") (st := Dn.top 30) KX ?a ?l ?c ?k ?_
    (case a => k_is)
    (case l => k_is)
    (case c => k_is)
    (case k => k_is)
    intro hd_are_ties_over
    refine' Dn.with_def (x := "is_pattern_value") (st := Dn.top 31) KX ?a ?l ?c ?k ?_
    (case a => k_is)
    (case l => k_is)
    (case c => k_is)
    (case k => k_is)
    intro hd_is_pattern_value
    refine' Dn.with_def (x := "need_pattern") (st := Dn.top 32) KX ?a ?l ?c ?k ?_
    (case a => k_is)
    (case l => k_is)
    (case c => k_is)
    (case k => k_is)
    intro hd_need_pattern
    refine' Dn.with_def (x := "maps_of") (st := Dn.top 35) KX ?a ?l ?c ?k ?_
    (case a => k_is)
    (case l => k_is)
    (case c => k_is)
    (case k => k_is)
    intro hd_maps_of
    refine' Dn.with_def (x := "images_of") (st := Dn.top 36) KX ?a ?l ?c ?k ?_
    (case a => k_is)
    (case l => k_is)
    (case c => k_is)
    (case k => k_is)
    intro hd_images_of
    refine' Dn.with_def (x := "is_map") (st := Dn.top 37) KX ?a ?l ?c ?k ?_
    (case a => k_is)
    (case l => k_is)
    (case c => k_is)
    (case k => k_is)
    intro hd_is_map
    refine' Dn.with_def (x := "need_patterns") (st := Dn.top 38) KX ?a ?l ?c ?k ?_
    (case a => k_is)
    (case l => k_is)
    (case c => k_is)
    (case k => k_is)
    intro hd_need_patterns
    refine' Dn.with_def (x := "need_map") (st := Dn.top 39) KX ?a ?l ?c ?k ?_
    (case a => k_is)
    (case l => k_is)
    (case c => k_is)
    (case k => k_is)
    intro hd_need_map
    refine' Dn.with_def (x := "maps") (st := Dn.top 40) KX ?a ?l ?c ?k ?_
    (case a => k_is)
    (case l => k_is)
    (case c => k_is)
    (case k => k_is)
    intro hd_maps
    refine' Dn.with_def (x := "images") (st := Dn.top 41) KX ?a ?l ?c ?k ?_
    (case a => k_is)
    (case l => k_is)
    (case c => k_is)
    (case k => k_is)
    intro hd_images
    refine' Dn.with_def (x := "_law_deck") (st := Dn.top 43) KX ?a ?l ?c ?k ?_
    (case a => k_is)
    (case l => k_is)
    (case c => k_is)
    (case k => k_is)
    intro hd__law_deck
    refine' Dn.with_def (x := "_law_draw") (st := Dn.top 44) KX ?a ?l ?c ?k ?_
    (case a => k_is)
    (case l => k_is)
    (case c => k_is)
    (case k => k_is)
    intro hd__law_draw
    refine' Dn.with_def (x := "_law_pick") (st := Dn.top 45) KX ?a ?l ?c ?k ?_
    (case a => k_is)
    (case l => k_is)
    (case c => k_is)
    (case k => k_is)
    intro hd__law_pick
    refine' Dn.with_def (x := "_law_mixed") (st := Dn.top 46) KX ?a ?l ?c ?k ?_
    (case a => k_is)
    (case l => k_is)
    (case c => k_is)
    (case k => k_is)
    intro hd__law_mixed
    refine' Dn.with_def (x := "_law_same") (st := Dn.top 47) KX ?a ?l ?c ?k ?_
    (case a => k_is)
    (case l => k_is)
    (case c => k_is)
    (case k => k_is)
    intro hd__law_same
    refine' Dn.with_def (x := "_law_is_whole") (st := Dn.top 48) KX ?a ?l ?c ?k ?_
    (case a => k_is)
    (case l => k_is)
    (case c => k_is)
    (case k => k_is)
    intro hd__law_is_whole
    refine' Dn.with_def (x := "_law_kinds") (st := Dn.top 49) KX ?a ?l ?c ?k ?_
    (case a => k_is)
    (case l => k_is)
    (case c => k_is)
    (case k => k_is)
    intro hd__law_kinds
    refine' Dn.with_def (x := "_law_pattern") (st := Dn.top 50) KX ?a ?l ?c ?k ?_
    (case a => k_is)
    (case l => k_is)
    (case c => k_is)
    (case k => k_is)
    intro hd__law_pattern
    refine' Dn.with_def (x := "_law_maps") (st := Dn.top 51) KX ?a ?l ?c ?k ?_
    (case a => k_is)
    (case l => k_is)
    (case c => k_is)
    (case k => k_is)
    intro hd__law_maps
    refine' Dn.with_def (x := "_law_image") (st := Dn.top 52) KX ?a ?l ?c ?k ?_
    (case a => k_is)
    (case l => k_is)
    (case c => k_is)
    (case k => k_is)
    intro hd__law_image
    refine' Dn.with_def (x := "_law_heard") (st := Dn.top 53) KX ?a ?l ?c ?k ?_
    (case a => k_is)
    (case l => k_is)
    (case c => k_is)
    (case k => k_is)
    intro hd__law_heard
    refine' Dn.with_def (x := "_law_many") (st := Dn.top 54) KX ?a ?l ?c ?k ?_
    (case a => k_is)
    (case l => k_is)
    (case c => k_is)
    (case k => k_is)
    intro hd__law_many
    refine' Dn.with_def (x := "_law_no_map") (st := Dn.top 55) KX ?a ?l ?c ?k ?_
    (case a => k_is)
    (case l => k_is)
    (case c => k_is)
    (case k => k_is)
    intro hd__law_no_map
    refine' Dn.with_def (x := "_law_is_map") (st := Dn.top 56) KX ?a ?l ?c ?k ?_
    (case a => k_is)
    (case l => k_is)
    (case c => k_is)
    (case k => k_is)
    intro hd__law_is_map
    refine' Dn.with_law (x := "law") (st := Dn.top 57) KX (PySem.W.km_tabs_of Y _ (List.Mem.head _)) ?n ?a ?l ?c ?k ?h ?_
    (case n => exact Dn.no_lk Y rfl)
    (case a => k_is)
    (case l => k_is)
    (case c => k_is)
    (case k => k_is)
    (case h => (refine' Dn.code_lk ?lk ?e; (case lk => k_is); (case e => first | exact rfl | decide +kernel)))
    intro hd_law hT hN hC
    refine' Dn.pg_with (P := PySem.Challenge.rw_rulesonwebs_k07_whole_maps_each_once_by.prog) _ KX G hd_is_whole hd_is_name hd_is_short hd_is_tuple_of hd_are_in_order hd_are_unlike hd_is_tie_kind hd_is_kinds_value hd_need_kinds hd_ends_of hd_size_of hd_is_tie_over hd_are_ties_over hd_is_pattern_value hd_need_pattern hd_maps_of hd_images_of hd_is_map hd_need_patterns hd_need_map hd_maps hd_images hd__law_deck hd__law_draw hd__law_pick hd__law_mixed hd__law_same hd__law_is_whole hd__law_kinds hd__law_pattern hd__law_maps hd__law_image hd__law_heard hd__law_many hd__law_no_map hd__law_is_map hd_law ?g_LETTERS ?g_FIGURES ?g_LONGEST ?g_MOST_PARTS ?g_PAIR_kinds ?g_TRIPLE ?g_MOST_ENDS ?g_MOST_SIZE ?g_TIE_PARTS ?g_PAIR_patterns ?g_OUTSIDE ?n_abs ?n_all ?n_any ?n_bool ?n_dict ?n_enumerate ?n_int ?n_isinstance ?n_len ?n_list ?n_max ?n_min ?n_range ?n_repr ?n_set ?n_sorted ?n_str ?n_sum ?n_super ?n_tuple ?n_zip ?q_WebError ?q_BadKinds ?q_BadPattern ?q_BadFit ⟨?made_y_WebError, ?ov_y_WebError, ?ini_y_WebError, ?fn_y_WebError, ?sub_y_WebError, ?sup_y_WebError, ?isE_y_WebError, ?isB_y_WebError, ?ty_y_WebError, ?sa_y_WebError, ?tk_y_WebError, ?hd_y_WebError, ?kC_y_WebError, ?any_y_WebError⟩ ⟨?made_y_BadKinds, ?ov_y_BadKinds, ?ini_y_BadKinds, ?fn_y_BadKinds, ?sub_y_BadKinds, ?sup_y_BadKinds, ?isE_y_BadKinds, ?isB_y_BadKinds, ?ty_y_BadKinds, ?sa_y_BadKinds, ?tk_y_BadKinds, ?hd_y_BadKinds, ?kC_y_BadKinds, ?any_y_BadKinds⟩ ⟨?made_y_BadPattern, ?ov_y_BadPattern, ?ini_y_BadPattern, ?fn_y_BadPattern, ?sub_y_BadPattern, ?sup_y_BadPattern, ?isE_y_BadPattern, ?isB_y_BadPattern, ?ty_y_BadPattern, ?sa_y_BadPattern, ?tk_y_BadPattern, ?hd_y_BadPattern, ?kC_y_BadPattern, ?any_y_BadPattern⟩ ⟨?made_y_BadFit, ?ov_y_BadFit, ?ini_y_BadFit, ?fn_y_BadFit, ?sub_y_BadFit, ?sup_y_BadFit, ?isE_y_BadFit, ?isB_y_BadFit, ?ty_y_BadFit, ?sa_y_BadFit, ?tk_y_BadFit, ?hd_y_BadFit, ?kC_y_BadFit, ?any_y_BadFit⟩ ⟨⟨?xf_ga_s_BadKinds, ?xf_gg_s_BadKinds, ?xf_exC_s_BadKinds, ?xf_hdC_s_BadKinds⟩, ?th_s_BadKinds, ?cl_s_BadKinds, ?cla_s_BadKinds, ?spc_s_BadKinds, ?tks_s_BadKinds, ?obj_s_BadKinds⟩ ⟨⟨?xf_ga_s_BadPattern, ?xf_gg_s_BadPattern, ?xf_exC_s_BadPattern, ?xf_hdC_s_BadPattern⟩, ?th_s_BadPattern, ?cl_s_BadPattern, ?cla_s_BadPattern, ?spc_s_BadPattern, ?tks_s_BadPattern, ?obj_s_BadPattern⟩ ⟨⟨?xf_ga_s_BadFit, ?xf_gg_s_BadFit, ?xf_exC_s_BadFit, ?xf_hdC_s_BadFit⟩, ?th_s_BadFit, ?cl_s_BadFit, ?cla_s_BadFit, ?spc_s_BadFit, ?tks_s_BadFit, ?obj_s_BadFit⟩ ⟨_, _, _, _, _, _, _, _, _, _, _, _, _, _, _, _, _, _, _, _, _, _, _, _, _, _, _, _, _, _, _, _, _, _, ?F1, ?F2, ?F3, ?F4, ?F5, ?F6, ?F7, ?F8, ?F9, ?F10, ?F11, ?F12, ?F13⟩ ?em_BadKinds_BadFit ?em_BadKinds_BadKinds ?em_BadKinds_BadPattern ?em_BadPattern_BadFit ?em_BadPattern_BadKinds ?em_BadPattern_BadPattern ?em_BadFit_BadFit ?em_BadFit_BadKinds ?em_BadFit_BadPattern ?ki_BadKinds_WebError ?ki_BadPattern_WebError ?ki_BadFit_WebError ?next
    (case g_LETTERS => k_is)
    (case g_FIGURES => k_is)
    (case g_LONGEST => k_is)
    (case g_MOST_PARTS => k_is)
    (case g_PAIR_kinds => k_is)
    (case g_TRIPLE => k_is)
    (case g_MOST_ENDS => k_is)
    (case g_MOST_SIZE => k_is)
    (case g_TIE_PARTS => k_is)
    (case g_PAIR_patterns => k_is)
    (case g_OUTSIDE => k_is)
    (case n_abs => k_is)
    (case n_all => k_is)
    (case n_any => k_is)
    (case n_bool => k_is)
    (case n_dict => k_is)
    (case n_enumerate => k_is)
    (case n_int => k_is)
    (case n_isinstance => k_is)
    (case n_len => k_is)
    (case n_list => k_is)
    (case n_max => k_is)
    (case n_min => k_is)
    (case n_range => k_is)
    (case n_repr => k_is)
    (case n_set => k_is)
    (case n_sorted => k_is)
    (case n_str => k_is)
    (case n_sum => k_is)
    (case n_super => k_is)
    (case n_tuple => k_is)
    (case n_zip => k_is)
    (case q_WebError => k_is)
    (case q_BadKinds => k_is)
    (case q_BadPattern => k_is)
    (case q_BadFit => k_is)
    (case ini_y_WebError => k_is)
    (case made_y_WebError => (refine' Dn.made_lk ?lk ?e; (case lk => k_is); (case e => first | exact rfl | decide +kernel)))
    (case ov_y_WebError => (refine' Dn.over_lk ?lk ?e; (case lk => k_is); (case e => first | exact rfl | decide +kernel)))
    (case fn_y_WebError => k_is)
    (case sub_y_WebError => k_is)
    (case sup_y_WebError => (refine' Dn.sup_lk ?lk ?e; (case lk => k_is); (case e => first | exact rfl | decide +kernel)))
    (case isE_y_WebError => k_is)
    (case isB_y_WebError => k_is)
    (case ty_y_WebError => k_is)
    (case sa_y_WebError => k_is)
    (case tk_y_WebError => k_is)
    (case hd_y_WebError => k_is)
    (case kC_y_WebError => k_is)
    (case any_y_WebError => k_is)
    (case made_y_BadKinds => (refine' Dn.made_lk ?lk ?e; (case lk => k_is); (case e => first | exact rfl | decide +kernel)))
    (case ov_y_BadKinds => (refine' Dn.over_lk ?lk ?e; (case lk => k_is); (case e => first | exact rfl | decide +kernel)))
    (case ini_y_BadKinds => k_is)
    (case fn_y_BadKinds => k_is)
    (case sub_y_BadKinds => k_is)
    (case sup_y_BadKinds => (refine' Dn.sup_lk ?lk ?e; (case lk => k_is); (case e => first | exact rfl | decide +kernel)))
    (case isE_y_BadKinds => k_is)
    (case isB_y_BadKinds => k_is)
    (case ty_y_BadKinds => k_is)
    (case sa_y_BadKinds => k_is)
    (case tk_y_BadKinds => k_is)
    (case hd_y_BadKinds => k_is)
    (case kC_y_BadKinds => k_is)
    (case any_y_BadKinds => k_is)
    (case made_y_BadPattern => (refine' Dn.made_lk ?lk ?e; (case lk => k_is); (case e => first | exact rfl | decide +kernel)))
    (case ov_y_BadPattern => (refine' Dn.over_lk ?lk ?e; (case lk => k_is); (case e => first | exact rfl | decide +kernel)))
    (case ini_y_BadPattern => k_is)
    (case fn_y_BadPattern => k_is)
    (case sub_y_BadPattern => k_is)
    (case sup_y_BadPattern => (refine' Dn.sup_lk ?lk ?e; (case lk => k_is); (case e => first | exact rfl | decide +kernel)))
    (case isE_y_BadPattern => k_is)
    (case isB_y_BadPattern => k_is)
    (case ty_y_BadPattern => k_is)
    (case sa_y_BadPattern => k_is)
    (case tk_y_BadPattern => k_is)
    (case hd_y_BadPattern => k_is)
    (case kC_y_BadPattern => k_is)
    (case any_y_BadPattern => k_is)
    (case made_y_BadFit => (refine' Dn.made_lk ?lk ?e; (case lk => k_is); (case e => first | exact rfl | decide +kernel)))
    (case ov_y_BadFit => (refine' Dn.over_lk ?lk ?e; (case lk => k_is); (case e => first | exact rfl | decide +kernel)))
    (case ini_y_BadFit => k_is)
    (case fn_y_BadFit => k_is)
    (case sub_y_BadFit => k_is)
    (case sup_y_BadFit => (refine' Dn.sup_lk ?lk ?e; (case lk => k_is); (case e => first | exact rfl | decide +kernel)))
    (case isE_y_BadFit => k_is)
    (case isB_y_BadFit => k_is)
    (case ty_y_BadFit => k_is)
    (case sa_y_BadFit => k_is)
    (case tk_y_BadFit => k_is)
    (case hd_y_BadFit => k_is)
    (case kC_y_BadFit => k_is)
    (case any_y_BadFit => k_is)
    (case xf_ga_s_BadKinds => k_is)
    (case xf_gg_s_BadKinds => k_is)
    (case xf_exC_s_BadKinds => k_is)
    (case xf_hdC_s_BadKinds => k_is)
    (case th_s_BadKinds => k_is)
    (case cl_s_BadKinds => (show PySem.W.isClsIn _ _ = true; k_is))
    (case cla_s_BadKinds => k_is)
    (case spc_s_BadKinds => k_is)
    (case tks_s_BadKinds => k_is)
    (case obj_s_BadKinds => k_is)
    (case xf_ga_s_BadPattern => k_is)
    (case xf_gg_s_BadPattern => k_is)
    (case xf_exC_s_BadPattern => k_is)
    (case xf_hdC_s_BadPattern => k_is)
    (case th_s_BadPattern => k_is)
    (case cl_s_BadPattern => (show PySem.W.isClsIn _ _ = true; k_is))
    (case cla_s_BadPattern => k_is)
    (case spc_s_BadPattern => k_is)
    (case tks_s_BadPattern => k_is)
    (case obj_s_BadPattern => k_is)
    (case xf_ga_s_BadFit => k_is)
    (case xf_gg_s_BadFit => k_is)
    (case xf_exC_s_BadFit => k_is)
    (case xf_hdC_s_BadFit => k_is)
    (case th_s_BadFit => k_is)
    (case cl_s_BadFit => (show PySem.W.isClsIn _ _ = true; k_is))
    (case cla_s_BadFit => k_is)
    (case spc_s_BadFit => k_is)
    (case tks_s_BadFit => k_is)
    (case obj_s_BadFit => k_is)
    (case F1 => (refine' Dn.lk_as ?lk ?e; (case lk => k_is); (case e => first | exact rfl | with_unfolding_all rfl)))
    (case F2 => k_is)
    (case F3 => exact fun _ _ => rfl)
    (case F4 => exact rfl)
    (case F5 => exact rfl)
    (case F6 => (refine' Dn.lk_as ?lk ?e; (case lk => k_is); (case e => first | exact rfl | with_unfolding_all rfl)))
    (case F7 => exact rfl)
    (case F8 => first | exact rfl | decide +kernel)
    (case F9 => (refine' Dn.lk_as ?lk ?e; (case lk => k_is); (case e => first | exact rfl | with_unfolding_all rfl)))
    (case F10 => exact fun _ => ⟨_, rfl⟩)
    (case F11 => exact fun _ => ⟨rfl, rfl⟩)
    (case F12 => (show PySem.W.isClsIn _ _ = true; k_is))
    (case F13 => decide +kernel)
    (case em_BadKinds_BadFit => (refine' Dn.exm_lk ?h1 ?h2 ?h3 ?h4; (case h1 => k_is); (case h2 => k_is); (case h3 => k_is); (case h4 => first | k_is | exact rfl)))
    (case em_BadKinds_BadKinds => (refine' Dn.exm_lk ?h1 ?h2 ?h3 ?h4; (case h1 => k_is); (case h2 => k_is); (case h3 => k_is); (case h4 => first | k_is | exact rfl)))
    (case em_BadKinds_BadPattern => (refine' Dn.exm_lk ?h1 ?h2 ?h3 ?h4; (case h1 => k_is); (case h2 => k_is); (case h3 => k_is); (case h4 => first | k_is | exact rfl)))
    (case em_BadPattern_BadFit => (refine' Dn.exm_lk ?h1 ?h2 ?h3 ?h4; (case h1 => k_is); (case h2 => k_is); (case h3 => k_is); (case h4 => first | k_is | exact rfl)))
    (case em_BadPattern_BadKinds => (refine' Dn.exm_lk ?h1 ?h2 ?h3 ?h4; (case h1 => k_is); (case h2 => k_is); (case h3 => k_is); (case h4 => first | k_is | exact rfl)))
    (case em_BadPattern_BadPattern => (refine' Dn.exm_lk ?h1 ?h2 ?h3 ?h4; (case h1 => k_is); (case h2 => k_is); (case h3 => k_is); (case h4 => first | k_is | exact rfl)))
    (case em_BadFit_BadFit => (refine' Dn.exm_lk ?h1 ?h2 ?h3 ?h4; (case h1 => k_is); (case h2 => k_is); (case h3 => k_is); (case h4 => first | k_is | exact rfl)))
    (case em_BadFit_BadKinds => (refine' Dn.exm_lk ?h1 ?h2 ?h3 ?h4; (case h1 => k_is); (case h2 => k_is); (case h3 => k_is); (case h4 => first | k_is | exact rfl)))
    (case em_BadFit_BadPattern => (refine' Dn.exm_lk ?h1 ?h2 ?h3 ?h4; (case h1 => k_is); (case h2 => k_is); (case h3 => k_is); (case h4 => first | k_is | exact rfl)))
    (case ki_BadKinds_WebError => (refine' Dn.kit_lk ?h0 ?h2 ?h3 ?h4; (case h0 => first | exact rfl | decide +kernel); (case h2 => k_is); (case h3 => k_is); (case h4 => first | k_is | exact rfl)))
    (case ki_BadPattern_WebError => (refine' Dn.kit_lk ?h0 ?h2 ?h3 ?h4; (case h0 => first | exact rfl | decide +kernel); (case h2 => k_is); (case h3 => k_is); (case h4 => first | k_is | exact rfl)))
    (case ki_BadFit_WebError => (refine' Dn.kit_lk ?h0 ?h2 ?h3 ?h4; (case h0 => first | exact rfl | decide +kernel); (case h2 => k_is); (case h3 => k_is); (case h4 => first | k_is | exact rfl)))
    case next =>
      intro T e1 e2 e3 e4
      have ef := hd_law.at'
      have e5 := PySem.W.mg_of KX G ef
      rw [hmg] at e5
      have e6 := PySem.Value.ref.inj (Option.some.inj e5)
      exact Dn.law_end T KX (e1.trans e6.symm) e4 (by rw [e3]; exact hT) (by rw [e3]; exact hN) (by rw [e2, e3]; exact hC)
