import PyProof.Rows.All
import Wide.All
import OpenK.AllK
import Wide.FinOn
import HandS.ForMost
import HandS.ForExc
import HandS.IsInst
import HandS.TupAny
import HandS.TupLe
import HandS.Conv
import HandS.Style
import HandS.Deep
import HandS.Wide
import HandS.SortInts
import HandS.DictComp
import HandS.Zip
import HandS.SetFor
import HandS.ExcInit
import KE.GoesMore
import KE.GoesEnum
import HandS.NamedTupSort
import HandS.ExcField
import PySem.Challenge.RW_nowhereworse_k92_spoilt_rows
set_option Elab.async false
set_option linter.all false
set_option maxRecDepth 100000
set_option maxHeartbeats 4000000
/-! the tree layer: values as trees, frozen and owned objects -/
namespace TL
open PySem PySem.Spec PyProof.Rows L2

/-- a value as a tree. adr: an address, whatever stands there; scr: the script, a list that is read alone -/
inductive T where
  | non | bl (b : Bool) | int (i : Int) | str (x : Str) | adr (a : Addr)
  | tup (ts : List T) | lst (ts : List T) | scr (ts : List T)

mutual
inductive Dn (K : PySem.W.Frag) (B : Hp) : V → T → Prop
  | non : Dn K B .non .non
  | bl (b : Bool) : Dn K B (.bl b) (.bl b)
  | int (i : Int) : Dn K B (.int i) (.int i)
  | str (x : Str) : Dn K B (.str x) (.str x)
  | adr (a : Addr) : Dn K B (.ref a) (.adr a)
  | tup {a : Addr} {vs : List V} {ts : List T} : B a = some (.tup vs) → Dns K B vs ts → Dn K B (.ref a) (.tup ts)
  | lst {a : Addr} {vs : List V} {ts : List T} : B a = some (.lst vs) → Dns K B vs ts → Dn K B (.ref a) (.lst ts)
  | scr {a : Addr} {vs : List V} {ts : List T} : SqL K B a vs → Dns K B vs ts → Dn K B (.ref a) (.scr ts)
inductive Dns (K : PySem.W.Frag) (B : Hp) : List V → List T → Prop
  | nil : Dns K B [] []
  | cons {v : V} {t : T} {vs : List V} {ts : List T} : Dn K B v t → Dns K B vs ts → Dns K B (v :: vs) (t :: ts)
end
def Ex (H H' : Hp) : Prop := ∀ a o, H a = some o → H' a = some o
theorem Ex.refl (H : Hp) : Ex H H := fun _ _ h => h
theorem Ex.trans {H H1 H2 : Hp} (a : Ex H H1) (b : Ex H1 H2) : Ex H H2 := fun x o h => b x o (a x o h)
theorem Ex.new {H : Hp} {p : Addr} {o : HO} (h : H p = none) : Ex H (upd H p o) := fun a u e => by
  rw [upd_ne (ne_of_none e h)]
  exact e
theorem Ex.free {H H' : Hp} (e : Ex H H') {p : Addr} (h : H' p = none) : H p = none := by
  cases h1 : H p with
  | none => rfl
  | some o =>
    rw [e p o h1] at h
    cases h
theorem Ex.rd {H H' : Hp} {a : Addr} {u : HO} (e : Ex H H') (h : Rd H a u) : Rd H' a u := by
  rcases h with h | ⟨o, h⟩
  · exact Or.inl (e a _ h)
  · exact Or.inr ⟨o, e a _ h⟩
theorem Ex.sl {K : PySem.W.Frag} {H H' : Hp} {a : Addr} {xs : List V} (e : Ex H H') (h : SqL K H a xs) : SqL K H' a xs := by
  rcases h with h | h
  · exact Or.inl (e.rd h)
  · exact Or.inr h
theorem Ex.st {K : PySem.W.Frag} {H H' : Hp} {a : Addr} {xs : List V} (e : Ex H H') (h : SqT K H a xs) : SqT K H' a xs := by
  rcases h with h | h
  · exact Or.inl (e.rd h)
  · exact Or.inr h
mutual
theorem Dn.mono {K : PySem.W.Frag} {B B' : Hp} (e : Ex B B') : ∀ {v : V} {t : T}, Dn K B v t → Dn K B' v t
  | _, _, .non => .non
  | _, _, .bl b => .bl b
  | _, _, .int i => .int i
  | _, _, .str x => .str x
  | _, _, .adr a => .adr a
  | _, _, .tup h hs => .tup (e _ _ h) (Dns.mono e hs)
  | _, _, .lst h hs => .lst (e _ _ h) (Dns.mono e hs)
  | _, _, .scr h hs => .scr (e.sl h) (Dns.mono e hs)
theorem Dns.mono {K : PySem.W.Frag} {B B' : Hp} (e : Ex B B') : ∀ {vs : List V} {ts : List T}, Dns K B vs ts → Dns K B' vs ts
  | _, _, .nil => .nil
  | _, _, .cons h hs => .cons (Dn.mono e h) (Dns.mono e hs)
end
section
variable {K : PySem.W.Frag} {B : Hp} {vs ws : List V} {ts us : List T}
theorem Dns.length : ∀ {vs : List V} {ts : List T}, Dns K B vs ts → vs.length = ts.length
  | _, _, .nil => rfl
  | _, _, .cons _ h => congrArg (· + 1) (Dns.length h)
theorem Dns.get : ∀ {vs : List V} {ts : List T} {i : Nat} {t : T}, Dns K B vs ts → ts[i]? = some t → ∃ v, vs[i]? = some v ∧ Dn K B v t
  | _, _, _, _, .nil, e => by simp at e
  | _, _, 0, _, .cons h _, e => by
    simp at e
    subst e
    exact ⟨_, rfl, h⟩
  | _, _, i + 1, t, .cons _ h, e => by
    obtain ⟨v, h1, h2⟩ := Dns.get (i := i) (t := t) h (by simpa using e)
    exact ⟨v, by simpa using h1, h2⟩
theorem Dns.getV : ∀ {vs : List V} {ts : List T} {i : Nat} {v : V}, Dns K B vs ts → vs[i]? = some v → ∃ t, ts[i]? = some t ∧ Dn K B v t
  | _, _, _, _, .nil, e => by simp at e
  | _, _, 0, _, .cons h _, e => by
    simp at e
    subst e
    exact ⟨_, rfl, h⟩
  | _, _, i + 1, t, .cons _ h, e => by
    obtain ⟨v, h1, h2⟩ := Dns.getV (i := i) (v := t) h (by simpa using e)
    exact ⟨v, by simpa using h1, h2⟩
theorem Dns.app : ∀ {vs : List V} {ts : List T} {ws : List V} {us : List T}, Dns K B vs ts → Dns K B ws us → Dns K B (vs ++ ws) (ts ++ us)
  | _, _, _, _, .nil, g => g
  | _, _, _, _, .cons h r, g => .cons h (Dns.app r g)
theorem Dns.one {v : V} {t : T} (h : Dn K B v t) : Dns K B [v] [t] := .cons h .nil
theorem Dns.take : ∀ {vs : List V} {ts : List T} (n : Nat), Dns K B vs ts → Dns K B (vs.take n) (ts.take n)
  | _, _, 0, _ => .nil
  | _, _, _ + 1, .nil => .nil
  | _, _, n + 1, .cons h r => .cons h (Dns.take n r)
theorem Dns.drop : ∀ {vs : List V} {ts : List T} (n : Nat), Dns K B vs ts → Dns K B (vs.drop n) (ts.drop n)
  | _, _, 0, h => h
  | _, _, _ + 1, .nil => .nil
  | _, _, n + 1, .cons _ r => Dns.drop n r
theorem Dns.set : ∀ {vs : List V} {ts : List T} {v : V} {t : T} (i : Nat), Dns K B vs ts → Dn K B v t → Dns K B (vs.set i v) (ts.set i t)
  | _, _, _, _, _, .nil, _ => .nil
  | _, _, _, _, 0, .cons _ r, g => .cons g r
  | _, _, _, _, i + 1, .cons h r, g => .cons h (Dns.set i r g)
theorem Dns.erase : ∀ {vs : List V} {ts : List T} (i : Nat), Dns K B vs ts → Dns K B (vs.eraseIdx i) (ts.eraseIdx i)
  | _, _, _, .nil => .nil
  | _, _, 0, .cons _ r => r
  | _, _, i + 1, .cons h r => .cons h (Dns.erase i r)
theorem Dns.rev : ∀ {vs : List V} {ts : List T}, Dns K B vs ts → Dns K B vs.reverse ts.reverse
  | _, _, .nil => .nil
  | _, _, .cons h r => by
    rw [List.reverse_cons, List.reverse_cons]
    exact (Dns.rev r).app (.one h)
theorem Dns.rep {v : V} {t : T} (h : Dn K B v t) : ∀ n : Nat, Dns K B (List.replicate n v) (List.replicate n t)
  | 0 => .nil
  | n + 1 => .cons h (Dns.rep h n)
/-- a list of ints -/
theorem Dns.ints : ∀ {ns : List Int}, Dns K B (ns.map V.int) (ns.map T.int)
  | [] => .nil
  | i :: r => .cons (.int i) (Dns.ints (ns := r))
theorem Dns.intsV : ∀ {vs : List V} {ns : List Int}, Dns K B vs (ns.map T.int) → vs = ns.map V.int
  | _, [], .nil => rfl
  | _, i :: r, .cons h g => by
    cases h
    rw [Dns.intsV g]
    rfl
end
end TL

namespace TL
open PySem PySem.Spec PyProof.Rows L2

/-! ### objects that may change: lists, dicts -/
inductive Ob where
  | lst (ts : List T) | dk (kvs : List (Key × T)) | dt (kvs : List (List Key × T))
def Dkv {κ : Type} (K : PySem.W.Frag) (B : Hp) : List (κ × V) → List (κ × T) → Prop := Paired fun p q => p.1 = q.1 ∧ Dn K B p.2 q.2
def Od (K : PySem.W.Frag) (B : Hp) : HO → Ob → Prop
  | .lst vs, .lst ts => Dns K B vs ts
  | .dK vs, .dk ts => Dkv K B vs ts
  | .dT vs, .dt ts => Dkv K B vs ts
  | _, _ => False
theorem Dkv.mono {κ : Type} {K : PySem.W.Frag} {B B' : Hp} (e : Ex B B') {vs : List (κ × V)} {ts : List (κ × T)} (h : Dkv K B vs ts) : Dkv K B' vs ts := Paired.mapP h fun _ _ z => ⟨z.1, z.2.mono e⟩
theorem Od.mono {K : PySem.W.Frag} {B B' : Hp} (e : Ex B B') : ∀ {o : HO} {c : Ob}, Od K B o c → Od K B' o c := fun {o c} h => by
  cases o <;> cases c <;> first | exact Dns.mono e h | exact Dkv.mono e h | exact h.elim
theorem Od.mut {K : PySem.W.Frag} {B : Hp} {o : HO} {c : Ob} (h : Od K B o c) : Mut (some o) := by
  cases o <;> cases c <;> first | trivial | exact h.elim

inductive Slot where
  | un | fr (t : T) | ow (c : Ob)
/-- the slots, the list that is shared with the callers (at an address) -/
structure S where
  ds : List Slot
  tp : Option (Addr × List T)
abbrev S.put (s : S) (i : Nat) (d : Slot) : S := ⟨s.ds.set i d, s.tp⟩
abbrev S.tape (s : S) (tp : Option (Addr × List T)) : S := ⟨s.ds, tp⟩
/-- what a run may count on: K; B0: what stood at its entry as known; F: all that stood there and is to stand -/
structure Zone where
  K : PySem.W.Frag
  B0 : Hp
  F : Hp

structure Rl (Z : Zone) (B : Hp) (st : S) (σ : L2.St) (H : Hp) : Prop where
  fk : Ex Z.F H
  bk : Ex B H
  b0 : Ex Z.B0 B
  nw : ∀ a o, B a = some o → Z.F a = none ∨ Z.B0 a = some o
  len : σ.length = st.ds.length
  fr : ∀ (i : Nat) (t : T), st.ds[i]? = some (Slot.fr t) → ∃ v, σ[i]? = some (some v) ∧ Dn Z.K B v t
  ow : ∀ (i : Nat) (c : Ob), st.ds[i]? = some (Slot.ow c) → ∃ p o, σ[i]? = some (some (V.ref p)) ∧ H p = some o ∧ Od Z.K B o c ∧ B p = none ∧ Z.F p = none ∧ ∀ a t, st.tp = some (a, t) → p ≠ a
  di : ∀ (i j : Nat) (c d : Ob) (p : Addr), i ≠ j → st.ds[i]? = some (Slot.ow c) → st.ds[j]? = some (Slot.ow d) → σ[i]? = some (some (V.ref p)) → σ[j]? = some (some (V.ref p)) → False
  tp : ∀ a t, st.tp = some (a, t) → B a = none ∧ Z.F a = none ∧ ∃ o, H a = some o ∧ Od Z.K B o (.lst t)

/-- new things only -/
structure Stp (B H B' H' : Hp) : Prop where
  bb : Ex B B'
  hh : Ex H H'
  bh : Ex B' H'
  nw : ∀ a o, B' a = some o → H a = none ∨ B a = some o
theorem Stp.refl {B H : Hp} (h : Ex B H) : Stp B H B H := ⟨Ex.refl B, Ex.refl H, h, fun _ _ e => .inr e⟩
theorem Stp.trans {B H B1 H1 B2 H2 : Hp} (a : Stp B H B1 H1) (b : Stp B1 H1 B2 H2) : Stp B H B2 H2 := ⟨a.bb.trans b.bb, a.hh.trans b.hh, b.bh, fun x o e => by
  rcases b.nw x o e with h | h
  · exact .inl (a.hh.free h)
  · exact a.nw x o h⟩
/-- a new known object -/
theorem Stp.new {B H : Hp} {p : Addr} {o : HO} (e : Ex B H) (h : H p = none) : Stp B H (upd B p o) (upd H p o) :=
  ⟨Ex.new (e.free h), Ex.new h, fun a u q => by
    by_cases z : a = p
    · subst z
      rw [upd_same] at q ⊢
      exact q
    · rw [upd_ne z] at q ⊢
      exact e a u q, fun a u q => by
    by_cases z : a = p
    · subst z
      exact .inl h
    · rw [upd_ne z] at q
      exact .inr q⟩
/-- a new object that stays apart -/
theorem Stp.apart {B H : Hp} {p : Addr} {o : HO} (e : Ex B H) (h : H p = none) : Stp B H B (upd H p o) :=
  ⟨Ex.refl B, Ex.new h, e.trans (Ex.new h), fun a u q => .inr q⟩
section
variable {Z : Zone} {B B' : Hp} {st : S} {σ : L2.St} {H H' : Hp}
theorem Rl.stp (r : Rl Z B st σ H) (s : Stp B H B' H') : Rl Z B' st σ H' where
  fk := r.fk.trans s.hh
  bk := s.bh
  b0 := r.b0.trans s.bb
  nw := fun a o e => by
    rcases s.nw a o e with h | h
    · exact .inl (r.fk.free h)
    · exact r.nw a o h
  len := r.len
  fr := fun i t e => by
    obtain ⟨v, h1, h2⟩ := r.fr i t e
    exact ⟨v, h1, h2.mono s.bb⟩
  ow := fun i c e => by
    obtain ⟨p, o, h1, h2, h3, h4, h5, h6⟩ := r.ow i c e
    refine ⟨p, o, h1, s.hh p o h2, h3.mono s.bb, ?_, h5, h6⟩
    cases q : B' p with
    | none => rfl
    | some u =>
      rcases s.nw p u q with h | h
      · rw [h2] at h
        cases h
      · rw [h4] at h
        cases h
  di := r.di
  tp := fun a t e => by
    obtain ⟨h1, h2, o, h3, h4⟩ := r.tp a t e
    refine ⟨?_, h2, o, s.hh a o h3, h4.mono s.bb⟩
    cases q : B' a with
    | none => rfl
    | some u =>
      rcases s.nw a u q with h | h
      · rw [h3] at h
        cases h
      · rw [h1] at h
        cases h
/-- a known value comes into a slot -/
theorem Rl.put (r : Rl Z B st σ H) {i : Nat} {v : V} {t : T} (hi : i < st.ds.length) (h : Dn Z.K B v t) : Rl Z B (st.put i (.fr t)) (σ.set i (some v)) H where
  fk := r.fk
  bk := r.bk
  b0 := r.b0
  nw := r.nw
  len := by
    show (σ.set i (some v)).length = (st.ds.set i (.fr t)).length
    rw [List.length_set, List.length_set, r.len]
  fr := fun j u e => by
    by_cases hj : i = j
    · subst hj
      rw [List.getElem?_set_self hi] at e
      cases e
      exact ⟨v, List.getElem?_set_self (by rw [r.len]; exact hi), h⟩
    · rw [List.getElem?_set_ne hj] at e
      rw [List.getElem?_set_ne hj]
      exact r.fr j u e
  ow := fun j c e => by
    by_cases hj : i = j
    · subst hj
      rw [List.getElem?_set_self hi] at e
      cases e
    · rw [List.getElem?_set_ne hj] at e
      rw [List.getElem?_set_ne hj]
      exact r.ow j c e
  di := fun j k c d p hn e1 e2 s1 s2 => by
    have h1 : i ≠ j := fun z => by
      subst z
      rw [List.getElem?_set_self hi] at e1
      cases e1
    have h2 : i ≠ k := fun z => by
      subst z
      rw [List.getElem?_set_self hi] at e2
      cases e2
    rw [List.getElem?_set_ne h1] at e1 s1
    rw [List.getElem?_set_ne h2] at e2 s2
    exact r.di j k c d p hn e1 e2 s1 s2
  tp := r.tp
/-- apart from all that is known, kept or owned -/
structure Apt (Z : Zone) (B : Hp) (st : S) (σ : L2.St) (p : Addr) : Prop where
  b : B p = none
  f : Z.F p = none
  o : ∀ (i : Nat) (c : Ob), st.ds[i]? = some (Slot.ow c) → σ[i]? ≠ some (some (V.ref p))
  t : ∀ a t, st.tp = some (a, t) → p ≠ a
theorem Rl.apart (r : Rl Z B st σ H) {p : Addr} (h : H p = none) : Apt Z B st σ p := by
  refine ⟨r.bk.free h, r.fk.free h, fun i c e q => ?_, fun a t e z => ?_⟩
  · obtain ⟨a, o, h1, h2, _⟩ := r.ow i c e
    rw [h1] at q
    cases q
    rw [h2] at h
    cases h
  · obtain ⟨_, _, o, h3, _⟩ := r.tp a t e
    subst z
    rw [h3] at h
    cases h
theorem Rl.putO (r : Rl Z B st σ H) {i : Nat} {p : Addr} {o : HO} {c : Ob} (hi : i < st.ds.length) (a : Apt Z B st σ p) (hp : H p = some o) (h : Od Z.K B o c) : Rl Z B (st.put i (.ow c)) (σ.set i (some (V.ref p))) H where
  fk := r.fk
  bk := r.bk
  b0 := r.b0
  nw := r.nw
  len := by
    show (σ.set i (some _)).length = (st.ds.set i (.ow c)).length
    rw [List.length_set, List.length_set, r.len]
  fr := fun j u e => by
    by_cases hj : i = j
    · subst hj
      rw [List.getElem?_set_self hi] at e
      cases e
    · rw [List.getElem?_set_ne hj] at e
      rw [List.getElem?_set_ne hj]
      exact r.fr j u e
  ow := fun j d e => by
    by_cases hj : i = j
    · subst hj
      rw [List.getElem?_set_self hi] at e
      cases e
      exact ⟨p, o, List.getElem?_set_self (by rw [r.len]; exact hi), hp, h, a.b, a.f, a.t⟩
    · rw [List.getElem?_set_ne hj] at e
      rw [List.getElem?_set_ne hj]
      exact r.ow j d e
  di := fun j k d e q hn e1 e2 s1 s2 => by
    by_cases h1 : i = j
    · subst h1
      rw [List.getElem?_set_self (by rw [r.len]; exact hi)] at s1
      cases s1
      rw [List.getElem?_set_ne hn] at e2 s2
      exact a.o k e e2 s2
    · by_cases h2 : i = k
      · subst h2
        rw [List.getElem?_set_self (by rw [r.len]; exact hi)] at s2
        cases s2
        rw [List.getElem?_set_ne h1] at e1 s1
        exact a.o j d e1 s1
      · rw [List.getElem?_set_ne h1] at e1 s1
        rw [List.getElem?_set_ne h2] at e2 s2
        exact r.di j k d e q hn e1 e2 s1 s2
  tp := r.tp
/-- an owned object becomes known -/
theorem Rl.freeze (r : Rl Z B st σ H) {i : Nat} {ts : List T} (e : st.ds[i]? = some (Slot.ow (.lst ts))) : ∃ B', Ex B B' ∧ Rl Z B' (st.put i (.fr (.lst ts))) σ H := by
  obtain ⟨p, o, h1, h2, h3, h4, h5, h6⟩ := r.ow i _ e
  obtain ⟨vs, rfl⟩ : ∃ vs, o = .lst vs := by
    cases o <;> first | exact ⟨_, rfl⟩ | exact (show False from h3).elim
  have x : Ex B (upd B p (.lst vs)) := Ex.new h4
  have hi : i < st.ds.length := (List.getElem?_eq_some_iff.mp e).1
  refine ⟨upd B p (.lst vs), x, r.fk, fun a u q => ?_, r.b0.trans x, fun a u q => ?_, ?_, fun j t q => ?_, fun j c q => ?_, fun j k c d a hn e1 e2 s1 s2 => ?_, fun a t q => ?_⟩
  · by_cases z : a = p
    · subst z
      rw [upd_same] at q
      cases q
      exact h2
    · rw [upd_ne z] at q
      exact r.bk a u q
  · by_cases z : a = p
    · subst z
      exact .inl h5
    · rw [upd_ne z] at q
      exact r.nw a u q
  · show σ.length = (st.ds.set i _).length
    rw [List.length_set]
    exact r.len
  · by_cases hj : i = j
    · subst hj
      rw [List.getElem?_set_self hi] at q
      cases q
      exact ⟨_, h1, .lst upd_same (Dns.mono x h3)⟩
    · rw [List.getElem?_set_ne hj] at q
      obtain ⟨v, q1, q2⟩ := r.fr j t q
      exact ⟨v, q1, q2.mono x⟩
  · have hj : i ≠ j := fun z => by
      subst z
      rw [List.getElem?_set_self hi] at q
      cases q
    rw [List.getElem?_set_ne hj] at q
    obtain ⟨a, u, q1, q2, q3, q4, q5, q6⟩ := r.ow j c q
    have ne : a ≠ p := fun z => by
      subst z
      exact r.di i j _ _ a hj e q h1 q1
    exact ⟨a, u, q1, q2, q3.mono x, by rw [upd_ne ne]; exact q4, q5, q6⟩
  · have n1 : i ≠ j := fun z => by
      subst z
      rw [List.getElem?_set_self hi] at e1
      cases e1
    have n2 : i ≠ k := fun z => by
      subst z
      rw [List.getElem?_set_self hi] at e2
      cases e2
    rw [List.getElem?_set_ne n1] at e1
    rw [List.getElem?_set_ne n2] at e2
    exact r.di j k c d a hn e1 e2 s1 s2
  · obtain ⟨q1, q2, u, q3, q4⟩ := r.tp a t q
    have ne : a ≠ p := fun z => h6 a t q z.symm
    exact ⟨by rw [upd_ne ne]; exact q1, q2, u, q3, q4.mono x⟩
/-- an owned object changes -/
theorem Rl.write (r : Rl Z B st σ H) {i : Nat} {c c' : Ob} {p : Addr} {o' : HO} (e : st.ds[i]? = some (Slot.ow c)) (hp : σ[i]? = some (some (V.ref p))) (h : Od Z.K B o' c') : Rl Z B (st.put i (.ow c')) σ (upd H p o') := by
  obtain ⟨p', o, h1, h2, h3, h4, h5, h6⟩ := r.ow i _ e
  have : p = p' := by
    rw [hp] at h1
    cases h1
    rfl
  subst this
  have hi : i < st.ds.length := (List.getElem?_eq_some_iff.mp e).1
  refine ⟨fun a u q => ?_, fun a u q => ?_, r.b0, r.nw, ?_, fun j t q => ?_, fun j d q => ?_, fun j k d d' a hn e1 e2 s1 s2 => ?_, fun a t q => ?_⟩
  · rw [upd_ne (ne_of_none q h5)]
    exact r.fk a u q
  · rw [upd_ne (ne_of_none q h4)]
    exact r.bk a u q
  · show σ.length = (st.ds.set i _).length
    rw [List.length_set]
    exact r.len
  · have hj : i ≠ j := fun z => by
      subst z
      rw [List.getElem?_set_self hi] at q
      cases q
    rw [List.getElem?_set_ne hj] at q
    exact r.fr j t q
  · by_cases hj : i = j
    · subst hj
      rw [List.getElem?_set_self hi] at q
      cases q
      exact ⟨p, o', h1, upd_same, h, h4, h5, h6⟩
    · rw [List.getElem?_set_ne hj] at q
      obtain ⟨a, u, q1, q2, q3, q4, q5, q6⟩ := r.ow j d q
      have ne : a ≠ p := fun z => by
        subst z
        exact r.di i j _ _ a hj e q h1 q1
      exact ⟨a, u, q1, by rw [upd_ne ne]; exact q2, q3, q4, q5, q6⟩
  · have z1 : ∃ d0, st.ds[j]? = some (Slot.ow d0) := by
      by_cases z : i = j
      · subst z
        exact ⟨_, e⟩
      · rw [List.getElem?_set_ne z] at e1
        exact ⟨_, e1⟩
    have z2 : ∃ d0, st.ds[k]? = some (Slot.ow d0) := by
      by_cases z : i = k
      · subst z
        exact ⟨_, e⟩
      · rw [List.getElem?_set_ne z] at e2
        exact ⟨_, e2⟩
    obtain ⟨d1, w1⟩ := z1
    obtain ⟨d2, w2⟩ := z2
    exact r.di j k d1 d2 a hn w1 w2 s1 s2
  · obtain ⟨q1, q2, u, q3, q4⟩ := r.tp a t q
    exact ⟨q1, q2, u, by rw [upd_ne (h6 a t q).symm]; exact q3, q4⟩
/-- the shared list changes -/
theorem Rl.writeT (r : Rl Z B st σ H) {a : Addr} {t t' : List T} {vs : List V} (e : st.tp = some (a, t)) (h : Dns Z.K B vs t') : Rl Z B (st.tape (some (a, t'))) σ (upd H a (.lst vs)) := by
  obtain ⟨h1, h2, o, h3, h4⟩ := r.tp a t e
  refine ⟨fun b u q => ?_, fun b u q => ?_, r.b0, r.nw, r.len, r.fr, fun j d q => ?_, r.di, fun b t q => ?_⟩
  · rw [upd_ne (ne_of_none q h2)]
    exact r.fk b u q
  · rw [upd_ne (ne_of_none q h1)]
    exact r.bk b u q
  · obtain ⟨p, u, q1, q2, q3, q4, q5, q6⟩ := r.ow j d q
    have ne : p ≠ a := q6 a t e
    refine ⟨p, u, q1, by rw [upd_ne ne]; exact q2, q3, q4, q5, fun b s z => ?_⟩
    have z' : some (a, t') = some (b, s) := z
    cases z'
    exact ne
  · have z' : some (a, t') = some (b, t) := q
    cases z'
    exact ⟨h1, h2, _, upd_same, h⟩
/-- a slot is forgotten -/
theorem Rl.drop (r : Rl Z B st σ H) {i : Nat} : Rl Z B (st.put i .un) σ H := by
  by_cases hi : i < st.ds.length
  · have ne : ∀ {j : Nat} {d : Slot}, d ≠ .un → (st.ds.set i .un)[j]? = some d → st.ds[j]? = some d := fun {j d} hd q => by
      by_cases hj : i = j
      · subst hj
        rw [List.getElem?_set_self hi] at q
        cases q
        exact absurd rfl hd
      · rw [List.getElem?_set_ne hj] at q
        exact q
    refine ⟨r.fk, r.bk, r.b0, r.nw, ?_, fun j t q => r.fr j t (ne (by intro z; cases z) q), fun j d q => r.ow j d (ne (by intro z; cases z) q), fun j k d d' a hn e1 e2 => r.di j k d d' a hn (ne (by intro z; cases z) e1) (ne (by intro z; cases z) e2), r.tp⟩
    show σ.length = (st.ds.set i _).length
    rw [List.length_set]
    exact r.len
  · have z : st.ds.set i .un = st.ds := List.set_eq_of_length_le (by omega)
    have : st.put i .un = st := by
      show (⟨st.ds.set i .un, st.tp⟩ : S) = st
      rw [z]
    rw [this]
    exact r
end
end TL

namespace TL
open PySem PySem.Spec PyProof.Rows L2

/-! ### expressions -/
abbrev XE := S → (T → S → Prop) → Prop
abbrev XN := S → (Ob → S → Prop) → Prop
abbrev XT := S → (Bool → S → Prop) → Prop
abbrev XA := S → (List T → S → Prop) → Prop
def SndE (Z : Zone) (te : TE) (x : XE) : Prop := ∀ st k, x st k → ∀ B σ H, Rl Z B st σ H → ∀ Q : VK, (∀ B' v t st' H', k t st' → Rl Z B' st' σ H' → Ex B B' → Dn Z.K B' v t → Q v H') → te σ H Q
def SndN (Z : Zone) (te : TE) (x : XN) : Prop := ∀ st k, x st k → ∀ B σ H, Rl Z B st σ H → ∀ Q : VK, (∀ B' p o c st' H', k c st' → Rl Z B' st' σ H' → Ex B B' → Apt Z B' st' σ p → H' p = some o → Od Z.K B' o c → Q (.ref p) H') → te σ H Q
def SndT (Z : Zone) (tt : TT) (x : XT) : Prop := ∀ st k, x st k → ∀ B σ H, Rl Z B st σ H → ∀ Q : Bool → Hp → Prop, (∀ B' b st' H', k b st' → Rl Z B' st' σ H' → Ex B B' → Q b H') → tt σ H Q
def SndA (Z : Zone) (ta : TA) (x : XA) : Prop := ∀ st k, x st k → ∀ B σ H, Rl Z B st σ H → ∀ Q : List V → Hp → Prop, (∀ B' vs ts st' H', k ts st' → Rl Z B' st' σ H' → Ex B B' → Dns Z.K B' vs ts → Q vs H') → ta σ H Q
structure PX (X : Cx) (e : Expr) (te : TE) (x : XE) : Prop where
  pe : PE X e te
  sn : ∀ Z : Zone, Z.K = X.K → SndE Z te x
structure PN (X : Cx) (e : Expr) (te : TE) (x : XN) : Prop where
  pe : PE X e te
  sn : ∀ Z : Zone, Z.K = X.K → SndN Z te x
structure PB (X : Cx) (e : Expr) (tt : TT) (x : XT) : Prop where
  pt : PT X e tt
  sn : ∀ Z : Zone, Z.K = X.K → SndT Z tt x
structure PBW (X : Cx) (e : Expr) (tt : TT) (x : XT) : Prop where
  pt : PW X e tt
  sn : ∀ Z : Zone, Z.K = X.K → SndT Z tt x
structure PAX (X : Cx) (es : List Expr) (ta : TA) (x : XA) : Prop where
  pa : PA X es ta
  sn : ∀ Z : Zone, Z.K = X.K → SndA Z ta x

/-- a two-place operation's reading on trees: g x y z -/
def RS2 (K : PySem.W.Frag) (r : R2) (g : T → T → T → Prop) : Prop := ∀ B H v w x y z, Ex B H → Dn K B v x → Dn K B w y → g x y z → ∀ Q : VK, (∀ B' u H', Stp B H B' H' → Dn K B' u z → Q u H') → r v w H Q
def RS1 (K : PySem.W.Frag) (r : V → Hp → VK → Prop) (g : T → T → Prop) : Prop := ∀ B H v x z, Ex B H → Dn K B v x → g x z → ∀ Q : VK, (∀ B' u H', Stp B H B' H' → Dn K B' u z → Q u H') → r v H Q
def RSA (K : PySem.W.Frag) (r : List V → Hp → VK → Prop) (g : List T → T → Prop) : Prop := ∀ B H vs xs z, Ex B H → Dns K B vs xs → g xs z → ∀ Q : VK, (∀ B' u H', Stp B H B' H' → Dn K B' u z → Q u H') → r vs H Q
/-- .. whose answer is a new object -/
def RSN (K : PySem.W.Frag) (r : List V → Hp → VK → Prop) (g : List T → Ob → Prop) : Prop := ∀ B H vs xs c, Ex B H → Dns K B vs xs → g xs c → ∀ Q : VK, (∀ p o, H p = none → Od K B o c → Q (.ref p) (upd H p o)) → r vs H Q

def xVar (i : Nat) : XE := fun st k => ∃ t, st.ds[i]? = some (Slot.fr t) ∧ k t st
def xC (t : T) : XE := fun st k => k t st
def xOp (g : T → T → T → Prop) (a b : XE) : XE := fun st k => a st fun x s1 => b s1 fun y s2 => ∃ z, g x y z ∧ k z s2
def xUn (g : T → T → Prop) (a : XE) : XE := fun st k => a st fun x s1 => ∃ z, g x z ∧ k z s1
def xNil : XA := fun st k => k [] st
def xCons (a : XE) (r : XA) : XA := fun st k => a st fun x s1 => r s1 fun xs s2 => k (x :: xs) s2
def xTup (a : XA) : XE := fun st k => a st fun xs s1 => xs.length ≤ sizeLine ∧ k (.tup xs) s1
def xLst (a : XA) : XN := fun st k => a st fun xs s1 => xs.length ≤ sizeLine ∧ k (.lst xs) s1
def xFz (a : XN) : XE := fun st k => a st fun c s1 => match c with
  | .lst ts => k (.lst ts) s1
  | _ => False
def xCB (g : List T → T → Prop) (a : XA) : XE := fun st k => a st fun xs s1 => ∃ z, g xs z ∧ k z s1
def xCN (g : List T → Ob → Prop) (a : XA) : XN := fun st k => a st fun xs s1 => ∃ c, g xs c ∧ k c s1

section
variable {X : Cx} {Z : Zone} {B B' : Hp} {st : S} {σ : L2.St} {H H' : Hp}
theorem Rl.frz (r : Rl Z B st σ H) {p : Addr} {o : HO} {ts : List T} (a : Apt Z B st σ p) (hp : H p = some o) (ho : Od Z.K B o (.lst ts)) : ∃ B', Ex B B' ∧ Rl Z B' st σ H ∧ Dn Z.K B' (.ref p) (.lst ts) := by
  obtain ⟨vs, rfl⟩ : ∃ vs, o = .lst vs := by
    cases o <;> first | exact ⟨_, rfl⟩ | exact (show False from ho).elim
  have x : Ex B (upd B p (.lst vs)) := Ex.new a.b
  refine ⟨_, x, ⟨r.fk, fun b u q => ?_, r.b0.trans x, fun b u q => ?_, r.len, fun i t e => ?_, fun i c e => ?_, r.di, fun b t e => ?_⟩, .lst upd_same (Dns.mono x ho)⟩
  · by_cases z : b = p
    · subst z
      rw [upd_same] at q
      cases q
      exact hp
    · rw [upd_ne z] at q
      exact r.bk b u q
  · by_cases z : b = p
    · subst z
      exact .inl a.f
    · rw [upd_ne z] at q
      exact r.nw b u q
  · obtain ⟨v, h1, h2⟩ := r.fr i t e
    exact ⟨v, h1, h2.mono x⟩
  · obtain ⟨b, u, q1, q2, q3, q4, q5, q6⟩ := r.ow i c e
    have ne : b ≠ p := fun z => by
      subst z
      exact a.o i c e q1
    exact ⟨b, u, q1, q2, q3.mono x, by rw [upd_ne ne]; exact q4, q5, q6⟩
  · obtain ⟨q1, q2, u, q3, q4⟩ := r.tp b t e
    have ne : b ≠ p := fun z => a.t b t e z.symm
    exact ⟨by rw [upd_ne ne]; exact q1, q2, u, q3, q4.mono x⟩

theorem px_var (i : Nat) {x : Str} {pos : Pos} (hN : X.N[i]? = some x := by rfl) (hv : Vis X.env.scope x := by first | exact Or.inl rfl | exact Or.inr (Or.inl rfl) | exact Or.inr (Or.inr rfl)) (hd : (x == ("__debug__" : Str)) = false := by decide)
    (hcd : (x == ("__classdict__" : Str)) = false := by decide) : PX X (.Name x pos) (tVar i) (xVar i) := ⟨pe_var hN hv hd hcd, fun Z _ st k ⟨t, e, h⟩ B σ H r Q q => by
  obtain ⟨v, h1, h2⟩ := r.fr i t e
  exact ⟨v, h1, q B v t st H h r (Ex.refl B) h2⟩⟩
theorem px_int {i j pos} : PX X (.Constant (.int i) j pos) (tC (.int i)) (xC (.int i)) := ⟨pe_int, fun Z _ st k h B σ H r Q q => q B _ _ st H h r (Ex.refl B) (.int i)⟩
theorem px_bl {b j pos} : PX X (.Constant (.bool b) j pos) (tC (.bl b)) (xC (.bl b)) := ⟨pe_bl, fun Z _ st k h B σ H r Q q => q B _ _ st H h r (Ex.refl B) (.bl b)⟩
theorem px_non {j pos} : PX X (.Constant .none j pos) (tC .non) (xC .non) := ⟨pe_non, fun Z _ st k h B σ H r Q q => q B _ _ st H h r (Ex.refl B) .non⟩
theorem px_str {x j pos} : PX X (.Constant (.str x) j pos) (tC (.str x)) (xC (.str x)) := ⟨pe_str, fun Z _ st k h B σ H r Q q => q B _ _ st H h r (Ex.refl B) (.str x)⟩

variable {a b c e : Expr} {es : List Expr} {ta tb tc te : TE} {t u : TT} {tA tR : TA} {xa xb xc x : XE} {xt xu : XT} {xs xr : XA} {pos : Pos} {r : R2} {g : T → T → T → Prop}
theorem snd_op (hr : RS2 Z.K r g) (ha : SndE Z ta xa) (hb : SndE Z tb xb) : SndE Z (tOp r ta tb) (xOp g xa xb) := fun st k h B σ H rl Q q =>
  ha st _ h B σ H rl _ fun B1 v x s1 H1 h1 r1 e1 d1 => hb s1 _ h1 B1 σ H1 r1 _ fun B2 w y s2 H2 ⟨z, hz, h2⟩ r2 e2 d2 =>
    hr B2 H2 v w x y z r2.bk (d1.mono e2) d2 hz Q fun B3 u H3 s d => q B3 u z s2 H3 h2 (r2.stp s) ((e1.trans e2).trans s.bb) d
theorem px_op {op : Operator} (ho : OpR X (binaryOp op) r) (hr : RS2 X.K r g) (ha : PX X a ta xa) (hb : PX X b tb xb) : PX X (.BinOp a op b pos) (tOp r ta tb) (xOp g xa xb) :=
  ⟨pe_op ho ha.pe hb.pe, fun Z e => snd_op (by rw [e]; exact hr) (ha.sn Z e) (hb.sn Z e)⟩
theorem px_cmp {op : CmpOp} (ho : OpR X (compareOp op) r) (hr : RS2 X.K r g) (ha : PX X a ta xa) (hb : PX X b tb xb) (hm : behindInMarks op b = false) : PX X (.Compare a [op] [b] pos) (tOp r ta tb) (xOp g xa xb) :=
  ⟨pe_cmpR ho ha.pe hb.pe hm, fun Z e => snd_op (by rw [e]; exact hr) (ha.sn Z e) (hb.sn Z e)⟩
theorem snd_un {r : V → Hp → VK → Prop} {g : T → T → Prop} (hr : RS1 Z.K r g) (ha : SndE Z ta xa) : SndE Z (tUn r ta) (xUn g xa) := fun st k h B σ H rl Q q =>
  ha st _ h B σ H rl _ fun B1 v x s1 H1 ⟨z, hz, h1⟩ r1 e1 d1 => hr B1 H1 v x z r1.bk d1 hz Q fun B3 u H3 s d => q B3 u z s1 H3 h1 (r1.stp s) (e1.trans s.bb) d
theorem px_un {op : UnaryOp} {r : V → Hp → VK → Prop} {g : T → T → Prop} (ho : UnR X (unaryOp op) r) (hr : RS1 X.K r g) (ha : PX X a ta xa) : PX X (.UnaryOp op a pos) (tUn r ta) (xUn g xa) :=
  ⟨pe_un ho ha.pe, fun Z e => snd_un (by rw [e]; exact hr) (ha.sn Z e)⟩
theorem px_nil : PAX X [] tNil xNil := ⟨pa_nil, fun Z _ st k h B σ H r Q q => q B _ _ st H h r (Ex.refl B) .nil⟩
theorem px_cons (ha : PX X e te x) (hr : PAX X es tR xr) (hs : starEach (e :: es) X.env = (false, eval e X.env) :: starEach es X.env := by rfl) : PAX X (e :: es) (tCons te tR) (xCons x xr) :=
  ⟨pa_cons ha.pe hr.pa hs, fun Z e st k h B σ H rl Q q => ha.sn Z e st _ h B σ H rl _ fun B1 v t s1 H1 h1 r1 e1 d1 => hr.sn Z e s1 _ h1 B1 σ H1 r1 _ fun B2 vs ts s2 H2 h2 r2 e2 d2 =>
    q B2 (v :: vs) (t :: ts) s2 H2 h2 r2 (e1.trans e2) (.cons (d1.mono e2) d2)⟩
theorem px_tup {x1} (h : PAX X es tA xs) : PX X (.Tuple es x1 pos) (tTup tA) (xTup xs) :=
  ⟨pe_tup h.pa, fun Z e st k hk B σ H rl Q q => h.sn Z e st _ hk B σ H rl _ fun B1 vs ts s1 H1 ⟨hl, h1⟩ r1 e1 d1 => ⟨by rw [d1.length]; exact hl, fun p hp => by
    have s : Stp B1 H1 (upd B1 p (.tup vs)) (upd H1 p (.tup vs)) := Stp.new r1.bk hp
    exact q _ _ _ s1 _ h1 (r1.stp s) (e1.trans s.bb) (.tup upd_same (Dns.mono s.bb d1))⟩⟩
theorem px_lst (h : PAX X es tA xs) : PN X (.List es pos) (tLst tA) (xLst xs) :=
  ⟨pe_lst h.pa, fun Z e st k hk B σ H rl Q q => h.sn Z e st _ hk B σ H rl _ fun B1 vs ts s1 H1 ⟨hl, h1⟩ r1 e1 d1 => ⟨by rw [d1.length]; exact hl, fun p hp => by
    have s : Stp B1 H1 B1 (upd H1 p (.lst vs)) := Stp.apart r1.bk hp
    exact q B1 p _ (.lst ts) s1 _ h1 (r1.stp s) e1 (r1.apart hp) upd_same d1⟩⟩
theorem px_fz {n : XN} (h : PN X e te n) : PX X e te (xFz n) := ⟨h.pe, fun Z e st k hk B σ H rl Q q => h.sn Z e st _ hk B σ H rl _ fun B1 p o c s1 H1 h1 r1 e1 a hp ho => by
  cases c with
  | lst ts =>
    obtain ⟨B2, e2, r2, d⟩ := r1.frz a hp ho
    exact q B2 _ _ s1 H1 h1 r2 (e1.trans e2) d
  | dk _ => exact (show False from h1).elim
  | dt _ => exact (show False from h1).elim⟩
/-- a call by values, of a built-in -/
theorem snd_cb {r : List V → Hp → VK → Prop} {g : List T → T → Prop} (hr : RSA Z.K r g) (ha : SndA Z tA xs) : SndE Z (tCB r tA) (xCB g xs) := fun st k h B σ H rl Q q =>
  ha st _ h B σ H rl _ fun B1 vs ts s1 H1 ⟨z, hz, h1⟩ r1 e1 d1 => hr B1 H1 vs ts z r1.bk d1 hz Q fun B3 u H3 s d => q B3 u z s1 H3 h1 (r1.stp s) (e1.trans s.bb) d
theorem snd_cn {r : List V → Hp → VK → Prop} {g : List T → Ob → Prop} (hr : RSN Z.K r g) (ha : SndA Z tA xs) : SndN Z (tCB r tA) (xCN g xs) := fun st k h B σ H rl Q q =>
  ha st _ h B σ H rl _ fun B1 vs ts s1 H1 ⟨c, hz, h1⟩ r1 e1 d1 => hr B1 H1 vs ts c r1.bk d1 hz Q fun p o hp ho => q B1 p o c s1 _ h1 (r1.stp (Stp.apart r1.bk hp)) e1 (r1.apart hp) upd_same ho
theorem px_callB {x : Str} {p : Pos} {id : String} {r : List V → Hp → VK → Prop} {g : List T → T → Prop} (hc : CallR X (.builtin id) r) (hr : RSA X.K r g) (hg : Gl X x) (hm : X.mg x = none) (hv : bootBuiltins x = some (.builtin id)) (ha : PAX X (e :: es) tA xs) (hn : x ≠ "__name__" := by decide) (hdb : (x == ("__debug__" : Str)) = false := by decide)
    (he : starEach (e :: es) X.env = (false, eval e X.env) :: starEach es X.env := by rfl) (hpl : (backTo pos (starEach es X.env)).any (·.1) = false := by rfl) : PX X (.Call (.Name x p) (e :: es) [] pos) (tCB r tA) (xCB g xs) :=
  ⟨pe_callB hc hg hm hv ha.pa hn hdb he hpl, fun Z e => snd_cb (by rw [e]; exact hr) (ha.sn Z e)⟩
theorem px_callTy {x : Str} {p : Pos} {n : String} {r : List V → Hp → VK → Prop} {g : List T → T → Prop} (hc : CallR X (.type n) r) (hr : RSA X.K r g) (hg : Gl X x) (hm : X.mg x = none) (hv : bootBuiltins x = some (.type n)) (ha : PAX X (e :: es) tA xs) (hn : x ≠ "__name__" := by decide) (hdb : (x == ("__debug__" : Str)) = false := by decide)
    (he : starEach (e :: es) X.env = (false, eval e X.env) :: starEach es X.env := by rfl) (hpl : (backTo pos (starEach es X.env)).any (·.1) = false := by rfl) : PX X (.Call (.Name x p) (e :: es) [] pos) (tCB r tA) (xCB g xs) :=
  ⟨pe_callTy hc hg hm hv ha.pa hn hdb he hpl, fun Z e => snd_cb (by rw [e]; exact hr) (ha.sn Z e)⟩
theorem pn_callB {x : Str} {p : Pos} {id : String} {r : List V → Hp → VK → Prop} {g : List T → Ob → Prop} (hc : CallR X (.builtin id) r) (hr : RSN X.K r g) (hg : Gl X x) (hm : X.mg x = none) (hv : bootBuiltins x = some (.builtin id)) (ha : PAX X (e :: es) tA xs) (hn : x ≠ "__name__" := by decide) (hdb : (x == ("__debug__" : Str)) = false := by decide)
    (he : starEach (e :: es) X.env = (false, eval e X.env) :: starEach es X.env := by rfl) (hpl : (backTo pos (starEach es X.env)).any (·.1) = false := by rfl) : PN X (.Call (.Name x p) (e :: es) [] pos) (tCB r tA) (xCN g xs) :=
  ⟨pe_callB hc hg hm hv ha.pa hn hdb he hpl, fun Z e => snd_cn (by rw [e]; exact hr) (ha.sn Z e)⟩
theorem pn_callTy {x : Str} {p : Pos} {n : String} {r : List V → Hp → VK → Prop} {g : List T → Ob → Prop} (hc : CallR X (.type n) r) (hr : RSN X.K r g) (hg : Gl X x) (hm : X.mg x = none) (hv : bootBuiltins x = some (.type n)) (ha : PAX X (e :: es) tA xs) (hn : x ≠ "__name__" := by decide) (hdb : (x == ("__debug__" : Str)) = false := by decide)
    (he : starEach (e :: es) X.env = (false, eval e X.env) :: starEach es X.env := by rfl) (hpl : (backTo pos (starEach es X.env)).any (·.1) = false := by rfl) : PN X (.Call (.Name x p) (e :: es) [] pos) (tCB r tA) (xCN g xs) :=
  ⟨pe_callTy hc hg hm hv ha.pa hn hdb he hpl, fun Z e => snd_cn (by rw [e]; exact hr) (ha.sn Z e)⟩

/-! ### tests, and, or, not -/
def truR : T → Bool → Prop
  | .non, b => b = false
  | .bl c, b => b = c
  | .int i, b => b = (i != 0)
  | .str s, b => s.length ≤ sizeLine ∧ b = ((s.length : Int) != 0)
  | .tup ts, b => b = !ts.isEmpty
  | .lst ts, b => b = !ts.isEmpty
  | .scr ts, b => b = !ts.isEmpty
  | .adr _, _ => False
theorem Dns.isEmpty {K : PySem.W.Frag} {vs : List V} {ts : List T} (h : Dns K B vs ts) : vs.isEmpty = ts.isEmpty := by
  cases h <;> rfl
theorem tru_ok {K : PySem.W.Frag} {v : V} {t : T} {b : Bool} (e : Ex B H) (h : Dn K B v t) (hb : truR t b) : TruV K v H b := by
  cases h with
  | non => exact hb
  | bl c => exact hb
  | int i => exact hb
  | str s => exact hb
  | adr a => exact hb.elim
  | tup h hs => exact .inr (.inl ⟨_, SqT.of (e _ _ h), by rw [hs.isEmpty]; exact hb⟩)
  | lst h hs => exact .inl ⟨_, SqL.of (e _ _ h), by rw [hs.isEmpty]; exact hb⟩
  | scr h hs => exact .inl ⟨_, e.sl h, by rw [hs.isEmpty]; exact hb⟩
def xTru (x : XE) : XT := fun st k => x st fun t s1 => ∃ b, truR t b ∧ k b s1
def xB (x : XE) : XT := fun st k => x st fun t s1 => ∃ b, t = .bl b ∧ k b s1
def xAnd (t u : XT) : XT := fun st k => t st fun c s1 => if c = true then u s1 k else k false s1
def xOr (t u : XT) : XT := fun st k => t st fun c s1 => if c = true then k true s1 else u s1 k
def xNot (t : XT) : XT := fun st k => t st fun c s1 => k (!c) s1
def xIf (t : XT) (a b : XE) : XE := fun st k => t st fun c s1 => if c = true then a s1 k else b s1 k
def xAndV (a b : XE) : XE := fun st k => a st fun x s1 => ∃ c, x = .bl c ∧ if c = true then b s1 k else k (.bl false) s1
def xOrV (a b : XE) : XE := fun st k => a st fun x s1 => ∃ c, x = .bl c ∧ if c = true then k (.bl true) s1 else b s1 k
def xNotV (a : XT) : XE := fun st k => a st fun c s1 => k (.bl (!c)) s1
theorem pb_tru (ha : PX X a ta xa) (he : ∀ whole, isTrue a X.env whole = (do let v ← whole; standAt a.pos; holding [v] (truthy v)) := by intro _; rfl) :
    PB X a (fun σ H Q => ta σ H fun x H' => ∃ k, TruV X.K x H' k ∧ Q k H') (xTru xa) := ⟨pt_truth ha.pe he, fun Z e st k h B σ H rl Q q =>
  ha.sn Z e st _ h B σ H rl _ fun B1 v t s1 H1 ⟨b, hb, h1⟩ r1 e1 d1 => ⟨b, by rw [← e]; exact tru_ok r1.bk d1 hb, q B1 b s1 H1 h1 r1 e1⟩⟩
theorem pb_cmp {op : CmpOp} (ho : OpR X (compareOp op) r) (hr : RS2 X.K r g) (ha : PX X a ta xa) (hb : PX X b tb xb) (hm : behindInMarks op b = false) : PB X (.Compare a [op] [b] pos) (tTest (tOp r ta tb)) (xB (xOp g xa xb)) :=
  ⟨pt_cmpR ho ha.pe hb.pe hm, fun Z e st k h B σ H rl Q q => snd_op (by rw [e]; exact hr) (ha.sn Z e) (hb.sn Z e) st _ h B σ H rl _ fun B1 v t s1 H1 ⟨b, hb, h1⟩ r1 e1 d1 => by
    subst hb
    cases d1
    exact ⟨b, rfl, q B1 b s1 H1 h1 r1 e1⟩⟩
theorem pb_not (ha : PB X a t xt) : PB X (.UnaryOp .Not a pos) (tNot t) (xNot xt) := ⟨pt_not ha.pt, fun Z e st k h B σ H rl Q q => ha.sn Z e st _ h B σ H rl _ fun B1 b s1 H1 h1 r1 e1 => q B1 _ s1 H1 h1 r1 e1⟩
theorem pb_w (h : PBW X e t xt) : PB X e t xt := ⟨h.pt.pt, h.sn⟩
theorem pw_last_and (ha : PB X a t xt) : PBW X (.BoolOp .And [a] pos) t xt := ⟨pw_and1 ha.pt, ha.sn⟩
theorem pw_last_or (ha : PB X a t xt) : PBW X (.BoolOp .Or [a] pos) t xt := ⟨pw_or1 ha.pt, ha.sn⟩
theorem pw_more_and {rest : List Expr} (ha : PB X a t xt) (hb : PBW X (.BoolOp .And (b :: rest) pos) u xu) : PBW X (.BoolOp .And (a :: b :: rest) pos) (tAnd t u) (xAnd xt xu) :=
  ⟨pw_and ha.pt hb.pt, fun Z e st k h B σ H rl Q q => ha.sn Z e st _ h B σ H rl _ fun B1 c s1 H1 h1 r1 e1 => by
    cases c with
    | true =>
      show u σ H1 Q
      exact hb.sn Z e s1 k h1 B1 σ H1 r1 Q fun B2 b s2 H2 h2 r2 e2 => q B2 b s2 H2 h2 r2 (e1.trans e2)
    | false =>
      show Q false H1
      exact q B1 false s1 H1 h1 r1 e1⟩
theorem pw_more_or {rest : List Expr} (ha : PB X a t xt) (hb : PBW X (.BoolOp .Or (b :: rest) pos) u xu) : PBW X (.BoolOp .Or (a :: b :: rest) pos) (tOr t u) (xOr xt xu) :=
  ⟨pw_or ha.pt hb.pt, fun Z e st k h B σ H rl Q q => ha.sn Z e st _ h B σ H rl _ fun B1 c s1 H1 h1 r1 e1 => by
    cases c with
    | true =>
      show Q true H1
      exact q B1 true s1 H1 h1 r1 e1
    | false =>
      show u σ H1 Q
      exact hb.sn Z e s1 k h1 B1 σ H1 r1 Q fun B2 b s2 H2 h2 r2 e2 => q B2 b s2 H2 h2 r2 (e1.trans e2)⟩
theorem px_ifExp (hc : PB X c t xt) (ha : PX X a ta xa) (hb : PX X b tb xb) : PX X (.IfExp c a b pos) (tIf t ta tb) (xIf xt xa xb) :=
  ⟨pe_ifExp hc.pt ha.pe hb.pe, fun Z e st k h B σ H rl Q q => hc.sn Z e st _ h B σ H rl _ fun B1 c s1 H1 h1 r1 e1 => by
    cases c with
    | true =>
      show ta σ H1 Q
      exact ha.sn Z e s1 k h1 B1 σ H1 r1 Q fun B2 v y s2 H2 h2 r2 e2 d => q B2 v y s2 H2 h2 r2 (e1.trans e2) d
    | false =>
      show tb σ H1 Q
      exact hb.sn Z e s1 k h1 B1 σ H1 r1 Q fun B2 v y s2 H2 h2 r2 e2 d => q B2 v y s2 H2 h2 r2 (e1.trans e2) d⟩
theorem px_one {op} (h : PX X a ta xa) : PX X (.BoolOp op [a] pos) ta xa := ⟨pe_one h.pe, h.sn⟩
theorem px_and {rest : List Expr} (ha : PX X a ta xa) (hb : PX X (.BoolOp .And (b :: rest) pos) tb xb) : PX X (.BoolOp .And (a :: b :: rest) pos) (tAndV ta tb) (xAndV xa xb) :=
  ⟨pe_and ha.pe hb.pe, fun Z e st k h B σ H rl Q q => ha.sn Z e st _ h B σ H rl _ fun B1 v t s1 H1 ⟨c, hc, h1⟩ r1 e1 d1 => by
    subst hc
    cases d1
    refine ⟨c, rfl, ?_⟩
    cases c with
    | true =>
      show tb σ H1 Q
      exact hb.sn Z e s1 k h1 B1 σ H1 r1 Q fun B2 v y s2 H2 h2 r2 e2 d => q B2 v y s2 H2 h2 r2 (e1.trans e2) d
    | false =>
      show Q (.bl false) H1
      exact q B1 _ _ s1 H1 h1 r1 e1 (.bl false)⟩
theorem px_or {rest : List Expr} (ha : PX X a ta xa) (hb : PX X (.BoolOp .Or (b :: rest) pos) tb xb) : PX X (.BoolOp .Or (a :: b :: rest) pos) (tOrV ta tb) (xOrV xa xb) :=
  ⟨pe_or ha.pe hb.pe, fun Z e st k h B σ H rl Q q => ha.sn Z e st _ h B σ H rl _ fun B1 v t s1 H1 ⟨c, hc, h1⟩ r1 e1 d1 => by
    subst hc
    cases d1
    refine ⟨c, rfl, ?_⟩
    cases c with
    | true =>
      show Q (.bl true) H1
      exact q B1 _ _ s1 H1 h1 r1 e1 (.bl true)
    | false =>
      show tb σ H1 Q
      exact hb.sn Z e s1 k h1 B1 σ H1 r1 Q fun B2 v y s2 H2 h2 r2 e2 d => q B2 v y s2 H2 h2 r2 (e1.trans e2) d⟩
theorem px_not (ha : PX X a ta xa) : PX X (.UnaryOp .Not a pos) (tNotV ta) (xNotV (xB xa)) :=
  ⟨pe_not ha.pe, fun Z e st k h B σ H rl Q q => ha.sn Z e st _ h B σ H rl _ fun B1 v t s1 H1 ⟨c, hc, h1⟩ r1 e1 d1 => by
    subst hc
    cases d1
    exact ⟨c, rfl, q B1 _ _ s1 H1 h1 r1 e1 (.bl _)⟩⟩
/-- a < b < c -/
def xChain (g g' : T → T → T → Prop) (a b c : XE) : XE := fun st k => a st fun x s1 => b s1 fun y s2 => ∃ z, g x y (.bl z) ∧ if z = true then c s2 fun w s3 => ∃ z', g' y w z' ∧ k z' s3 else k (.bl false) s2
theorem px_chain {op op' : CmpOp} {r' : R2} {g' : T → T → T → Prop} (ho : OpR X (compareOp op) r) (hr : RS2 X.K r g) (ho' : OpR X (compareOp op') r') (hr' : RS2 X.K r' g') (ha : PX X a ta xa) (hb : PX X b tb xb) (hc : PX X c tc xc)
    (hm : lastMarks [op, op'] [b, c] = false := by with_unfolding_all rfl) : PX X (.Compare a [op, op'] [b, c] pos) (tChain r r' ta tb tc) (xChain g g' xa xb xc) :=
  ⟨pe_chain ho ho' ha.pe hb.pe hc.pe hm, fun Z e st k h B σ H rl Q q => ha.sn Z e st _ h B σ H rl _ fun B1 v x s1 H1 h1 r1 e1 d1 => hb.sn Z e s1 _ h1 B1 σ H1 r1 _ fun B2 w y s2 H2 ⟨z, hz, h2⟩ r2 e2 d2 => by
    refine (show RS2 Z.K r g by rw [e]; exact hr) B2 H2 v w x y _ r2.bk (d1.mono e2) d2 hz _ fun B3 u H3 s d => ?_
    cases d
    refine ⟨z, rfl, ?_⟩
    cases z with
    | true =>
      show tc σ H3 _
      exact hc.sn Z e s2 _ h2 B3 σ H3 (r2.stp s) _ fun B4 u' y' s4 H4 ⟨z', hz', h4⟩ r4 e4 d4 =>
        (show RS2 Z.K r' g' by rw [e]; exact hr') B4 H4 w u' y y' z' r4.bk ((d2.mono s.bb).mono e4) d4 hz' Q fun B5 u5 H5 s5 d5 => q B5 u5 z' s4 H5 h4 (r4.stp s5) ((((e1.trans e2).trans s.bb).trans e4).trans s5.bb) d5
    | false =>
      show Q (.bl false) H3
      exact q B3 _ _ s2 H3 h2 (r2.stp s) ((e1.trans e2).trans s.bb) (.bl false)⟩
end
end TL

namespace TL
open PySem PySem.Spec PyProof.Rows L2

theorem OpR.or {X : Cx} {f : Value → Value → Sem Value} {r r' : R2} (h : OpR X f r) (h' : OpR X f r') : OpR X f (fun x y H Q => r x y H Q ∨ r' x y H Q) := by
  intro pins s σ H x y v u Q I rx ry q
  rcases q with q | q
  · exact h pins s σ H x y v u Q I rx ry q
  · exact h' pins s σ H x y v u Q I rx ry q
theorem CallR.or {X : Cx} {f : Value} {r r' : List V → Hp → VK → Prop} (h : CallR X f r) (h' : CallR X f r') : CallR X f (fun xs H Q => r xs H Q ∨ r' xs H Q) := by
  intro pins s σ H xs us Q I rx q
  rcases q with q | q
  · exact h pins s σ H xs us Q I rx q
  · exact h' pins s σ H xs us Q I rx q
theorem RS2.or {K : PySem.W.Frag} {r r' : R2} {g g' : T → T → T → Prop} (h : RS2 K r g) (h' : RS2 K r' g') : RS2 K (fun x y H Q => r x y H Q ∨ r' x y H Q) (fun x y z => g x y z ∨ g' x y z) := fun B H v w x y z e d1 d2 hg Q q => by
  rcases hg with hg | hg
  · exact .inl (h B H v w x y z e d1 d2 hg Q q)
  · exact .inr (h' B H v w x y z e d1 d2 hg Q q)
theorem RS2.imp {K : PySem.W.Frag} {r : R2} {g g' : T → T → T → Prop} (h : RS2 K r g) (i : ∀ x y z, g' x y z → g x y z) : RS2 K r g' := fun B H v w x y z e d1 d2 hg Q q => h B H v w x y z e d1 d2 (i x y z hg) Q q

/-! ### arithmetic -/
inductive intR (C : Int → Int → Prop) (f : Int → Int → Int) : T → T → T → Prop
  | mk {i j : Int} (h : C i j) : intR C f (.int i) (.int j) (.int (f i j))
theorem rs_I {K : PySem.W.Frag} {C : Int → Int → Prop} {f : Int → Int → Int} : RS2 K (rI C fun i j => .int (f i j)) (intR C f) := fun B H v w x y z e d1 d2 hg Q q => by
  cases hg with
  | mk h =>
    cases d1
    cases d2
    exact ⟨_, _, rfl, rfl, h, q B _ H (Stp.refl e) (.int _)⟩
theorem rs_I0 {K : PySem.W.Frag} {f : Int → Int → Int} : RS2 K (rI0 fun i j => .int (f i j)) (intR (fun _ _ => True) f) := fun B H v w x y z e d1 d2 hg Q q => by
  cases hg with
  | mk h =>
    cases d1
    cases d2
    exact ⟨_, _, rfl, rfl, q B _ H (Stp.refl e) (.int _)⟩
inductive catT : T → T → T → Prop
  | mk {xs ys : List T} (h : xs.length + ys.length ≤ sizeLine) : catT (.tup xs) (.tup ys) (.tup (xs ++ ys))
theorem rs_catA {K : PySem.W.Frag} : RS2 K (rCatA K) catT := fun B H v w x y z e d1 d2 hg Q q => by
  cases hg with
  | mk h =>
    cases d1 with
    | tup h1 s1 =>
      cases d2 with
      | tup h2 s2 =>
        rename_i vs1 b vs2
        refine ⟨_, _, _, _, rfl, rfl, SqT.of (e _ _ h1), SqT.of (e _ _ h2), by rw [s1.length, s2.length]; exact h, ?_, ?_, ?_⟩
        · intro hx
          subst hx
          cases s1
          exact q B _ H (Stp.refl e) (.tup h2 s2)
        · intro hx hy
          subst hy
          cases s2
          rw [List.append_nil] at *
          exact q B _ H (Stp.refl e) (.tup h1 s1)
        · intro hx hy p hp
          have s := Stp.new (o := .tup (vs1 ++ vs2)) e hp
          exact q _ _ _ s (.tup upd_same ((Dns.mono s.bb s1).app (Dns.mono s.bb s2)))
inductive catL : T → T → T → Prop
  | mk {xs ys : List T} (h : xs.length + ys.length ≤ sizeLine) : catL (.lst xs) (.lst ys) (.lst (xs ++ ys))
theorem rs_cat {K : PySem.W.Frag} : RS2 K rCat catL := fun B H v w x y z e d1 d2 hg Q q => by
  cases hg with
  | mk h =>
    cases d1 with
    | lst h1 s1 =>
      cases d2 with
      | lst h2 s2 =>
        rename_i vs1 b vs2
        refine ⟨_, _, _, _, rfl, rfl, e _ _ h1, e _ _ h2, by rw [s1.length, s2.length]; exact h, fun p hp => ?_⟩
        have s := Stp.new (o := .lst (vs1 ++ vs2)) e hp
        exact q _ _ _ s (.lst upd_same ((Dns.mono s.bb s1).app (Dns.mono s.bb s2)))
/-- what + gives -/
def addR : T → T → T → Prop := fun x y z => intR (fun _ _ => True) (fun i j => i + j) x y z ∨ catT x y z ∨ catL x y z
theorem addR.int {i j : Int} : addR (.int i) (.int j) (.int (i + j)) := .inl (.mk trivial)
theorem addR.tup {xs ys : List T} (h : xs.length + ys.length ≤ sizeLine) : addR (.tup xs) (.tup ys) (.tup (xs ++ ys)) := .inr (.inl (.mk h))
theorem addR.lst {xs ys : List T} (h : xs.length + ys.length ≤ sizeLine) : addR (.lst xs) (.lst ys) (.lst (xs ++ ys)) := .inr (.inr (.mk h))
inductive repL : T → T → T → Prop
  | mk {xs : List T} {k : Int} (h1 : -(2 ^ 63) ≤ k) (h2 : k < 2 ^ 63) (h : xs.length * k.toNat ≤ sizeLine) : repL (.lst xs) (.int k) (.lst (List.replicate k.toNat xs).flatten)
theorem Dns.reps {K : PySem.W.Frag} {B : Hp} {vs : List V} {ts : List T} (h : Dns K B vs ts) : ∀ n : Nat, Dns K B (List.replicate n vs).flatten (List.replicate n ts).flatten
  | 0 => .nil
  | n + 1 => by
    rw [List.replicate_succ, List.replicate_succ, List.flatten_cons, List.flatten_cons]
    exact h.app (Dns.reps h n)
theorem rs_rep {K : PySem.W.Frag} : RS2 K rRep repL := fun B H v w x y z e d1 d2 hg Q q => by
  cases hg with
  | @mk _ n g1 g2 h =>
    cases d1 with
    | lst h1 s1 =>
      cases d2
      rename_i vs1
      refine ⟨_, _, _, rfl, rfl, e _ _ h1, g1, g2, by rw [s1.length]; exact h, fun p hp => ?_⟩
      have s := Stp.new (o := .lst (List.replicate n.toNat vs1).flatten) e hp
      exact q _ _ _ s (.lst upd_same ((Dns.mono s.bb s1).reps _))
def mulR : T → T → T → Prop := fun x y z => intR CMulW (fun i j => i * j) x y z ∨ repL x y z
theorem mulR.int {i j : Int} (h : CMulW i j) : mulR (.int i) (.int j) (.int (i * j)) := .inl (.mk h)
theorem mulR.lst {xs : List T} {k : Int} (h1 : -(2 ^ 63) ≤ k) (h2 : k < 2 ^ 63) (h : xs.length * k.toNat ≤ sizeLine) : mulR (.lst xs) (.int k) (.lst (List.replicate k.toNat xs).flatten) := .inr (.mk h1 h2 h)
abbrev subR := intR (fun _ _ => True) (fun i j => i - j)
abbrev modR := intR (fun _ j => 0 < j) (fun i j => i % j)
abbrev divR := intR CDivW (fun i j => i / j)
abbrev powR := intR CPow (fun i j => i ^ j.toNat)
abbrev orR := intR (fun _ _ => True) (fun i j => Builtin.bitOr i j)
inductive negR : T → T → Prop
  | mk {i : Int} : negR (.int i) (.int (-i))
theorem rs_neg {K : PySem.W.Frag} : RS1 K (rU fun i => .int (-i)) negR := fun B H v x z e d1 hg Q q => by
  cases hg
  cases d1
  exact ⟨_, rfl, q B _ H (Stp.refl e) (.int _)⟩
/-! ### comparisons -/
inductive cmpR (f : Int → Int → Bool) : T → T → T → Prop
  | mk {i j : Int} : cmpR f (.int i) (.int j) (.bl (f i j))
theorem rs_C {K : PySem.W.Frag} {f : Int → Int → Bool} : RS2 K (rI0 fun i j => .bl (f i j)) (cmpR f) := fun B H v w x y z e d1 d2 hg Q q => by
  cases hg
  cases d1
  cases d2
  exact ⟨_, _, rfl, rfl, q B _ H (Stp.refl e) (.bl _)⟩
abbrev ltR := cmpR fun i j => decide (i < j)
abbrev gtR := cmpR fun i j => decide (j < i)
def tle (ns ms : List Int) : Bool := Ob.lexAt (fun j => decide (ns.getD j 0 = ms.getD j 0)) (fun j => decide (ns.getD j 0 ≤ ms.getD j 0)) (decide (ns.length ≤ ms.length)) 0 (min ns.length ms.length)
theorem lexAt_congr {e e' r r' : Nat → Bool} {z z' : Bool} (he : ∀ i, e i = e' i) (hr : ∀ i, r i = r' i) (hz : z = z') : ∀ (k i : Nat), Ob.lexAt e r z i k = Ob.lexAt e' r' z' i k
  | 0, i => hz
  | k + 1, i => by
    rw [Ob.lexAt_succ, Ob.lexAt_succ, he, hr, lexAt_congr he hr hz k (i + 1)]
def rGeT (K : PySem.W.Frag) : R2 := fun x y H Q => ∃ (a b : Addr) (ns ms : List Int), x = .ref a ∧ y = .ref b ∧ SqT K H a (ns.map V.int) ∧ SqT K H b (ms.map V.int) ∧ Q (.bl (tle ms ns)) H
theorem op_geT {X : Cx} (hu : X.A.units < cLine) : OpR X (compareOp .GtE) (rGeT X.K) := by
  intro pins s σ H x y v u Q I rx ry h
  obtain ⟨a, b, ns, ms, rfl, rfl, ha, hb, q⟩ := h
  cases rx
  cases ry
  obtain ⟨its, r1, p1, _⟩ := I.tuple ha
  obtain ⟨its2, r2, p2, _⟩ := I.tuple hb
  have i1 : IntsAre its ns := Vals.ints r1
  have i2 : IntsAre its2 ms := Vals.ints r2
  have e1 : its.toArray.size = ns.length := by rw [List.size_toArray]; exact i1.length
  have e2 : its2.toArray.size = ms.length := by rw [List.size_toArray]; exact i2.length
  have at1 : ∀ j (h1 : j < its.toArray.size), ∃ t, its.toArray[j] = .int (ns.getD j 0) t := fun j h1 => PyProof.Rows.IntsAre.int_at i1 _ _ (by simp at h1; simp [h1])
  have at2 : ∀ j (h1 : j < its2.toArray.size), ∃ t, its2.toArray[j] = .int (ms.getD j 0) t := fun j h1 => PyProof.Rows.IntsAre.int_at i2 _ _ (by simp at h1; simp [h1])
  have R := Ob.RcOp.tuples_ge (A := X.A) (s := s) (e := fun j => decide (ns.getD j 0 = ms.getD j 0)) (r := fun j => decide (ms.getD j 0 ≤ ns.getD j 0)) p1 p2 hu (fun j h1 h2 => by
    obtain ⟨t, et⟩ := at1 j h1
    obtain ⟨t', et'⟩ := at2 j h2
    rw [et, et']
    have z : (ns.getD j 0 == ms.getD j 0) = decide (ns.getD j 0 = ms.getD j 0) := by
      by_cases q : ns.getD j 0 = ms.getD j 0
      · rw [decide_eq_true q]; exact beq_iff_eq.mpr q
      · rw [decide_eq_false q]; exact beq_eq_false_iff_ne.mpr q
    rw [← z]
    exact SeqAt.EqAt.int_int _ _ _ _) (fun j h1 h2 _ => by
    obtain ⟨t, et⟩ := at1 j h1
    obtain ⟨t', et'⟩ := at2 j h2
    rw [et, et']
    exact Ob.RcOp.ge_int _ _ _ _)
  rw [e1, e2] at R
  have sw : Ob.lexAt (fun j => decide (ns.getD j 0 = ms.getD j 0)) (fun j => decide (ms.getD j 0 ≤ ns.getD j 0)) (decide (ns.length ≥ ms.length)) 0 (min ns.length ms.length) = tle ms ns := by
    unfold tle
    rw [Nat.min_comm ms.length ns.length]
    exact lexAt_congr (fun i => by rw [decide_eq_decide]; exact eq_comm) (fun i => rfl) rfl _ _
  rw [sw] at R
  have z : wpAny (model X.prog X.w) X.A (compareOp .GtE (.ref a) (.ref b)) (EP X pins σ Q) X.xe s := R X.prog X.w X.xe (EP X pins σ Q) ⟨.bl _, H, I, rfl, q⟩
  exact z
abbrev tI (ns : List Int) : T := .tup (ns.map T.int)
inductive leTR : T → T → T → Prop
  | mk {ns ms : List Int} : leTR (tI ns) (tI ms) (.bl (tle ns ms))
inductive geTR : T → T → T → Prop
  | mk {ns ms : List Int} : geTR (tI ns) (tI ms) (.bl (tle ms ns))
theorem rs_leT {K : PySem.W.Frag} : RS2 K (rLeT K) leTR := fun B H v w x y z e d1 d2 hg Q q => by
  cases hg with
  | @mk ns ms =>
    cases d1 with
    | tup h1 s1 =>
      cases d2 with
      | tup h2 s2 =>
        rw [s1.intsV] at h1
        rw [s2.intsV] at h2
        exact ⟨_, _, ns, ms, rfl, rfl, SqT.of (e _ _ h1), SqT.of (e _ _ h2), q B _ H (Stp.refl e) (.bl _)⟩
theorem rs_geT {K : PySem.W.Frag} : RS2 K (rGeT K) geTR := fun B H v w x y z e d1 d2 hg Q q => by
  cases hg with
  | @mk ns ms =>
    cases d1 with
    | tup h1 s1 =>
      cases d2 with
      | tup h2 s2 =>
        rw [s1.intsV] at h1
        rw [s2.intsV] at h2
        exact ⟨_, _, ns, ms, rfl, rfl, SqT.of (e _ _ h1), SqT.of (e _ _ h2), q B _ H (Stp.refl e) (.bl _)⟩
def leR : T → T → T → Prop := fun x y z => cmpR (fun i j => decide (i ≤ j)) x y z ∨ leTR x y z
def geR : T → T → T → Prop := fun x y z => cmpR (fun i j => decide (j ≤ i)) x y z ∨ geTR x y z
theorem leR.int {i j : Int} : leR (.int i) (.int j) (.bl (decide (i ≤ j))) := .inl .mk
theorem leR.tup {ns ms : List Int} : leR (tI ns) (tI ms) (.bl (tle ns ms)) := .inr .mk
theorem geR.int {i j : Int} : geR (.int i) (.int j) (.bl (decide (j ≤ i))) := .inl .mk
theorem geR.tup {ns ms : List Int} : geR (tI ns) (tI ms) (.bl (tle ms ns)) := .inr .mk

/-- flat trees as values -/
def T.flat : T → Option V
  | .non => some .non
  | .bl b => some (.bl b)
  | .int i => some (.int i)
  | .str s => some (.str s)
  | _ => none
theorem Dn.flat {K : PySem.W.Frag} {B : Hp} {v w : V} {t : T} (h : Dn K B v t) (e : t.flat = some w) : v = w := by
  cases h <;> cases e <;> rfl
mutual
def T.dat : T → PyData
  | .non => .none
  | .bl b => .bool b
  | .int i => .int i
  | .str s => .str s
  | .tup ts => .tuple (T.dats ts)
  | .lst ts => .list (T.dats ts)
  | .scr ts => .list (T.dats ts)
  | .adr _ => .none
def T.dats : List T → List PyData
  | [] => []
  | t :: ts => t.dat :: T.dats ts
end
mutual
def T.sure : T → Bool
  | .tup ts => T.sures ts
  | .lst ts => T.sures ts
  | .scr ts => T.sures ts
  | .adr _ => false
  | _ => true
def T.sures : List T → Bool
  | [] => true
  | t :: ts => t.sure && T.sures ts
end
mutual
theorem Dn.dp {K : PySem.W.Frag} {B H : Hp} (e : Ex B H) : ∀ {v : V} {t : T}, Dn K B v t → t.sure = true → Dp K H v t.dat
  | _, _, .non, _ => .non
  | _, _, .bl b, _ => .bl b
  | _, _, .int i, _ => .int i
  | _, _, .str s, _ => .str s
  | _, _, .adr a, h => by cases h
  | _, _, .tup h hs, z => .tup (SqT.of (e _ _ h)) (Dns.dp e hs z)
  | _, _, .lst h hs, z => .lst (SqL.of (e _ _ h)) (Dns.dp e hs z)
  | _, _, .scr h hs, z => .lst (e.sl h) (Dns.dp e hs z)
theorem Dns.dp {K : PySem.W.Frag} {B H : Hp} (e : Ex B H) : ∀ {vs : List V} {ts : List T}, Dns K B vs ts → T.sures ts = true → DpAll K H vs (T.dats ts)
  | _, _, .nil, _ => .nil
  | _, t :: ts, .cons h hs, z => by
    have z' : (t.sure && T.sures ts) = true := z
    rw [Bool.and_eq_true] at z'
    exact .cons (Dn.dp e h z'.1) (Dns.dp e hs z'.2)
end
inductive eqF (n : Bool) : T → T → T → Prop
  | mk {x y : T} {v w : V} (hx : x.flat = some v) (hy : y.flat = some w) (h : scal v w = true) : eqF n x y (.bl (n ^^ decide (v = w)))
theorem rs_eqF {K : PySem.W.Frag} : RS2 K rEq (eqF false) := fun B H v w x y z e d1 d2 hg Q q => by
  cases hg with
  | mk hx hy h =>
    rw [d1.flat hx, d2.flat hy]
    exact ⟨h, by rw [← Bool.false_xor (decide _)]; exact q B _ H (Stp.refl e) (.bl _)⟩
theorem rs_neF {K : PySem.W.Frag} : RS2 K rNe (eqF true) := fun B H v w x y z e d1 d2 hg Q q => by
  cases hg with
  | mk hx hy h =>
    rw [d1.flat hx, d2.flat hy]
    exact ⟨h, by rw [← Bool.true_xor (decide _)]; exact q B _ H (Stp.refl e) (.bl _)⟩
inductive eqD (n : Bool) : T → T → T → Prop
  | mk {x y : T} (h1 : x.sure = true) (h2 : y.sure = true) (h3 : SeqAt.shaped x.dat = true) (h4 : SeqAt.shaped y.dat = true) : eqD n x y (.bl (n ^^ PyData.eqv x.dat y.dat))
theorem rs_eqD {K : PySem.W.Frag} : RS2 K (rEqD K) (eqD false) := fun B H v w x y z e d1 d2 hg Q q => by
  cases hg with
  | mk h1 h2 h3 h4 => exact ⟨_, _, d1.dp e h1, d2.dp e h2, h3, h4, by rw [← Bool.false_xor (PyData.eqv _ _)]; exact q B _ H (Stp.refl e) (.bl _)⟩
theorem rs_neD {K : PySem.W.Frag} : RS2 K (rNeD K) (eqD true) := fun B H v w x y z e d1 d2 hg Q q => by
  cases hg with
  | mk h1 h2 h3 h4 => exact ⟨_, _, d1.dp e h1, d2.dp e h2, h3, h4, by rw [← Bool.true_xor (PyData.eqv _ _)]; exact q B _ H (Stp.refl e) (.bl _)⟩
/-- == (n false), != (n true) -/
def eqR (n : Bool) : T → T → T → Prop := fun x y z => eqF n x y z ∨ eqD n x y z
theorem eqR.int {n : Bool} {i j : Int} : eqR n (.int i) (.int j) (.bl (n ^^ decide (i = j))) := .inl (by
  have : decide (i = j) = decide (V.int i = V.int j) := by rw [decide_eq_decide]; exact ⟨fun h => by rw [h], fun h => V.int.inj h⟩
  rw [this]
  exact .mk rfl rfl rfl)
theorem eqR.str {n : Bool} {i j : Str} : eqR n (.str i) (.str j) (.bl (n ^^ decide (i = j))) := .inl (by
  have : decide (i = j) = decide (V.str i = V.str j) := by rw [decide_eq_decide]; exact ⟨fun h => by rw [h], fun h => V.str.inj h⟩
  rw [this]
  exact .mk rfl rfl rfl)
/-! tuples of ints as data -/
theorem dats_ints (ns : List Int) : T.dats (ns.map T.int) = ns.map PyData.int := by
  induction ns with
  | nil => rfl
  | cons i r ih => rw [List.map_cons, List.map_cons, T.dats, ih]; rfl
theorem sures_ints (ns : List Int) : T.sures (ns.map T.int) = true := by
  induction ns with
  | nil => rfl
  | cons i r ih => rw [List.map_cons, T.sures, ih]; rfl
theorem eqv_ints : ∀ (ns ms : List Int), PyData.eqvAll (ns.map PyData.int) (ms.map PyData.int) = decide (ns = ms)
  | [], [] => rfl
  | [], _ :: _ => rfl
  | _ :: _, [] => rfl
  | i :: ns, j :: ms => by
    rw [List.map_cons, List.map_cons, PyData.eqvAll, eqv_ints ns ms]
    show ((i == j) && decide (ns = ms)) = decide (i :: ns = j :: ms)
    rw [Bool.eq_iff_iff]
    simp
theorem lay_ints (ns : List Int) : PyData.canLayAll0 (ns.map PyData.int) = true := by
  induction ns with
  | nil => rfl
  | cons i r ih => rw [List.map_cons, PyData.canLayAll0, ih]; rfl
theorem depth_ints (ns : List Int) : PyData.depthAll (ns.map PyData.int) ≤ 1 := by
  induction ns with
  | nil => simp [PyData.depthAll]
  | cons i r ih => simp only [List.map_cons, PyData.depthAll, PyData.depth]; omega
theorem shaped_tI (ns : List Int) : SeqAt.shaped (tI ns).dat = true := by
  show SeqAt.shaped (.tuple (T.dats (ns.map T.int))) = true
  rw [dats_ints]
  have h := depth_ints ns
  show (PyData.canLay0 (.tuple (ns.map .int)) && decide (PyData.depth (.tuple (ns.map .int)) ≤ 64)) = true
  rw [Bool.and_eq_true]
  refine ⟨?_, ?_⟩
  · simp only [PyData.canLay0]
    exact lay_ints ns
  · refine decide_eq_true ?_
    simp only [PyData.depth]
    omega
theorem sure_tI (ns : List Int) : (tI ns).sure = true := sures_ints ns
theorem eqv_tI (ns ms : List Int) : PyData.eqv (tI ns).dat (tI ms).dat = decide (ns = ms) := by
  show PyData.eqv (.tuple (T.dats (ns.map T.int))) (.tuple (T.dats (ms.map T.int))) = _
  rw [dats_ints, dats_ints, PyData.eqv, eqv_ints]
theorem eqR.tup {n : Bool} {ns ms : List Int} : eqR n (tI ns) (tI ms) (.bl (n ^^ decide (ns = ms))) := .inr (by
  rw [← eqv_tI]
  exact .mk (sure_tI _) (sure_tI _) (shaped_tI _) (shaped_tI _))
/-- is, is not (n): None; bools -/
def T.isNon : T → Bool
  | .non => true
  | _ => false
inductive isR (n : Bool) : T → T → T → Prop
  | non {x : T} : isR n x .non (.bl (n ^^ x.isNon))
theorem Dn.isNon {K : PySem.W.Frag} {B : Hp} {v : V} {t : T} (h : Dn K B v t) : decide (v = .non) = t.isNon := by
  cases h <;> rfl
inductive isB (n : Bool) : T → T → T → Prop
  | bl {a b : Bool} : isB n (.bl a) (.bl b) (.bl (n ^^ decide (a = b)))
theorem rs_is {K : PySem.W.Frag} : RS2 K rIsB (isB false) := fun B H v w x y z e d1 d2 hg Q q => by
  cases hg with
  | bl =>
    cases d1
    cases d2
    exact ⟨_, _, rfl, rfl, by rw [← Bool.false_xor (decide _)]; exact q B _ H (Stp.refl e) (.bl _)⟩
theorem rs_isnot {K : PySem.W.Frag} : RS2 K rNotB (isB true) := fun B H v w x y z e d1 d2 hg Q q => by
  cases hg with
  | bl =>
    cases d1
    cases d2
    exact ⟨_, _, rfl, rfl, by rw [← Bool.true_xor (decide _)]; exact q B _ H (Stp.refl e) (.bl _)⟩
theorem rs_isN {K : PySem.W.Frag} : RS2 K (fun x y H Q => y = .non ∧ Q (.bl (decide (x = .non))) H) (isR false) := fun B H v w x y z e d1 d2 hg Q q => by
  cases hg with
  | non =>
    cases d2
    refine ⟨rfl, ?_⟩
    rw [d1.isNon, ← Bool.false_xor x.isNon]
    exact q B _ H (Stp.refl e) (.bl _)
theorem rs_notN {K : PySem.W.Frag} : RS2 K (fun x y H Q => y = .non ∧ Q (.bl (!decide (x = .non))) H) (isR true) := fun B H v w x y z e d1 d2 hg Q q => by
  cases hg with
  | non =>
    cases d2
    refine ⟨rfl, ?_⟩
    rw [d1.isNon, ← Bool.true_xor x.isNon]
    exact q B _ H (Stp.refl e) (.bl _)
/-! ### in -/
def inT (x : T) (ts : List T) : Bool := match x.flat with
  | some v => ts.any fun t => match t.flat with | some w => eqV w v | none => false
  | none => false
inductive inF (n : Bool) : T → T → T → Prop
  | tup {x : T} {v : V} {ts : List T} (hx : x.flat = some v) (h : ts.all (fun t => t.flat.isSome) = true) : inF n x (.tup ts) (.bl (n ^^ inT x ts))
  | lst {x : T} {v : V} {ts : List T} (hx : x.flat = some v) (h : ts.all (fun t => t.flat.isSome) = true) : inF n x (.lst ts) (.bl (n ^^ inT x ts))
theorem flat_flatV {t : T} {v : V} (h : t.flat = some v) : flatV v = true := by
  cases t <;> cases h <;> rfl
theorem Dns.flats {K : PySem.W.Frag} {B : Hp} : ∀ {vs : List V} {ts : List T} (h : Dns K B vs ts) (hf : ts.all (fun t => t.flat.isSome) = true), vs.all flatV = true ∧ ∀ v, inV v vs = ts.any fun t => match t.flat with | some w => eqV w v | none => false
  | _, _, .nil, _ => ⟨rfl, fun _ => rfl⟩
  | v :: vs, t :: ts, .cons h hs, hf => by
    rw [List.all_cons, Bool.and_eq_true] at hf
    obtain ⟨h1, h2⟩ := hf
    obtain ⟨w, hw⟩ := Option.isSome_iff_exists.mp h1
    obtain ⟨i1, i2⟩ := Dns.flats hs h2
    have e := h.flat hw
    subst e
    refine ⟨by rw [List.all_cons, i1, flat_flatV hw]; rfl, fun x => ?_⟩
    show (eqV v x || inV x vs) = _
    rw [List.any_cons, hw, i2 x]
theorem rs_in {K : PySem.W.Frag} (n : Bool) : RS2 K (rIn K n) (inF n) := fun B H v w x y z e d1 d2 hg Q q => by
  have fin : ∀ b : Bool, (if n = true then !b else b) = (n ^^ b) := fun b => by cases n <;> cases b <;> rfl
  cases hg with
  | tup hx h =>
    cases d2 with
    | tup h2 s2 =>
      obtain ⟨i1, i2⟩ := s2.flats h
      have e1 := d1.flat hx
      subst e1
      refine ⟨_, _, rfl, .inr (SqT.of (e _ _ h2)), flat_flatV hx, i1, ?_⟩
      rw [fin, i2 v]
      have z := q B (.bl (n ^^ inT x _)) H (Stp.refl e) (.bl _)
      unfold inT at z
      rw [hx] at z
      exact z
  | lst hx h =>
    cases d2 with
    | lst h2 s2 =>
      obtain ⟨i1, i2⟩ := s2.flats h
      have e1 := d1.flat hx
      subst e1
      refine ⟨_, _, rfl, .inl (SqL.of (e _ _ h2)), flat_flatV hx, i1, ?_⟩
      rw [fin, i2 v]
      have z := q B (.bl (n ^^ inT x _)) H (Stp.refl e) (.bl _)
      unfold inT at z
      rw [hx] at z
      exact z
end TL

namespace TL
open PySem PySem.Spec PyProof.Rows L2

/-! ### subscripts -/
theorem Dns.at {K : PySem.W.Frag} {B : Hp} {vs : List V} {ts : List T} {i : Int} {t : T} (h : Dns K B vs ts) (e : atI ts i = some t) : ∃ v, atI vs i = some v ∧ Dn K B v t := by
  unfold atI at e ⊢
  rw [h.length]
  cases q : ixN ts.length i with
  | none => rw [q] at e; cases e
  | some j =>
    rw [q] at e
    exact h.get e
inductive ixR : T → T → T → Prop
  | lst {ts : List T} {i : Int} {t : T} (h : atI ts i = some t) : ixR (.lst ts) (.int i) t
  | tup {ts : List T} {i : Int} {t : T} (h : atI ts i = some t) : ixR (.tup ts) (.int i) t
  | scr {ts : List T} {i : Int} {t : T} (h : atI ts i = some t) : ixR (.scr ts) (.int i) t
theorem rs_ix {K : PySem.W.Frag} : RS2 K (rIx K) ixR := fun B H v w x y z e d1 d2 hg Q q => by
  cases hg with
  | lst h =>
    cases d1 with
    | lst h1 s1 =>
      cases d2
      obtain ⟨u, hu, du⟩ := s1.at h
      exact .inl ⟨_, _, _, _, rfl, rfl, SqL.of (e _ _ h1), hu, q B u H (Stp.refl e) du⟩
  | tup h =>
    cases d1 with
    | tup h1 s1 =>
      cases d2
      obtain ⟨u, hu, du⟩ := s1.at h
      exact .inr (.inl ⟨_, _, _, _, rfl, rfl, SqT.of (e _ _ h1), hu, q B u H (Stp.refl e) du⟩)
  | scr h =>
    cases d1 with
    | scr h1 s1 =>
      cases d2
      obtain ⟨u, hu, du⟩ := s1.at h
      exact .inl ⟨_, _, _, _, rfl, rfl, e.sl h1, hu, q B u H (Stp.refl e) du⟩
/-! ### slices -/
abbrev XO := S → (Option Int → S → Prop) → Prop
def SndO (Z : Zone) (to : TO) (x : XO) : Prop := ∀ st k, x st k → ∀ B σ H, Rl Z B st σ H → ∀ Q : Option Int → Hp → Prop, (∀ B' o st' H', k o st' → Rl Z B' st' σ H' → Ex B B' → Q o H') → to σ H Q
structure POX (X : Cx) (e : Option Expr) (to : TO) (x : XO) : Prop where
  po : PO X e to
  sn : ∀ Z : Zone, Z.K = X.K → SndO Z to x
def xNo : XO := fun st k => k none st
def xPart (x : XE) : XO := fun st k => x st fun t s1 => ∃ i, t = .int i ∧ k (some i) s1
def cut {α : Type} (xs : List α) (lo hi : Option Int) : List α := (xs.drop (HT.sIx xs.length 0 lo)).take (HT.sIx xs.length xs.length hi - HT.sIx xs.length 0 lo)
theorem Dns.cut {K : PySem.W.Frag} {B : Hp} {vs : List V} {ts : List T} (h : Dns K B vs ts) (lo hi : Option Int) : Dns K B (cutV vs lo hi) (TL.cut ts lo hi) := by
  unfold cutV TL.cut
  rw [h.length]
  exact (h.drop _).take _
inductive slR : T → Option Int → Option Int → T → Prop
  | lst {ts : List T} {lo hi : Option Int} : slR (.lst ts) lo hi (.lst (cut ts lo hi))
  | tup {ts : List T} {lo hi : Option Int} : slR (.tup ts) lo hi (.tup (cut ts lo hi))
  | scr {ts : List T} {lo hi : Option Int} : slR (.scr ts) lo hi (.lst (cut ts lo hi))
def RSS (K : PySem.W.Frag) (r : V → Option Int → Option Int → Hp → VK → Prop) (g : T → Option Int → Option Int → T → Prop) : Prop := ∀ B H v x lo hi z, Ex B H → Dn K B v x → g x lo hi z → ∀ Q : VK, (∀ B' u H', Stp B H B' H' → Dn K B' u z → Q u H') → r v lo hi H Q
def rSlU (K : PySem.W.Frag) : V → Option Int → Option Int → Hp → VK → Prop := fun x lo hi H Q => rSlL K x lo hi H Q ∨ rSlA K x lo hi H Q
theorem sl_U {X : Cx} : SlR X (rSlU X.K) := sl_list.or sl_tupA
theorem rs_sl {K : PySem.W.Frag} : RSS K (rSlU K) slR := fun B H v x lo hi z e d1 hg Q q => by
  cases hg with
  | lst =>
    cases d1 with
    | lst h1 s1 =>
      rename_i vs
      refine .inl ⟨_, _, rfl, SqL.of (e _ _ h1), fun p hp => ?_⟩
      have s := Stp.new (o := .lst (cutV vs lo hi)) e hp
      exact q _ _ _ s (.lst upd_same (Dns.mono s.bb (s1.cut lo hi)))
  | scr =>
    cases d1 with
    | scr h1 s1 =>
      rename_i vs
      refine .inl ⟨_, _, rfl, e.sl h1, fun p hp => ?_⟩
      have s := Stp.new (o := .lst (cutV vs lo hi)) e hp
      exact q _ _ _ s (.lst upd_same (Dns.mono s.bb (s1.cut lo hi)))
  | tup =>
    cases d1 with
    | tup h1 s1 =>
      rename_i ts a vs
      refine .inr ⟨_, _, rfl, SqT.of (e _ _ h1), fun ⟨w1, w2⟩ => ?_, fun w p hp => ?_⟩
      · have ez : TL.cut ts lo hi = ts := by
          unfold TL.cut
          rw [← s1.length, w1, w2, List.drop_zero, Nat.sub_zero, s1.length, List.take_length]
        rw [ez] at q
        exact q B _ H (Stp.refl e) (.tup h1 s1)
      · have s := Stp.new (o := .tup (cutV vs lo hi)) e hp
        exact q _ _ _ s (.tup upd_same (Dns.mono s.bb (s1.cut lo hi)))
def xSl (g : T → Option Int → Option Int → T → Prop) (x : XE) (l h : XO) : XE := fun st k => x st fun t s1 => l s1 fun lo s2 => h s2 fun hi s3 => ∃ z, g t lo hi z ∧ k z s3
section
variable {X : Cx} {a b c e : Expr} {es : List Expr} {ta tb tc te : TE} {t u : TT} {tA tR : TA} {xa xb xc x : XE} {xt xu : XT} {xs xr : XA} {pos p2 : Pos} {r : R2} {g : T → T → T → Prop} {lo hi : Option Expr} {tl th : TO} {xl xh : XO}
theorem px_ix (ha : PX X a ta xa) (hb : PX X b tb xb) (hs : PlainIx b := by exact fun _ _ => rfl) : PX X (.Subscript a b pos) (tOp (rIx X.K) ta tb) (xOp ixR xa xb) :=
  ⟨pe_ix ix_seq ha.pe hb.pe hs, fun Z e => snd_op (by rw [e]; exact rs_ix) (ha.sn Z e) (hb.sn Z e)⟩
theorem px_no : POX X none tNoPart xNo := ⟨po_none, fun Z _ st k h B σ H r Q q => q B _ st H h r (Ex.refl B)⟩
theorem px_part (h : PX X e te x) : POX X (some e) (tPart te) (xPart x) := ⟨po_some h.pe, fun Z z st k hk B σ H r Q q => h.sn Z z st _ hk B σ H r _ fun B1 v t s1 H1 ⟨i, hi, h1⟩ r1 e1 d1 => by
  subst hi
  cases d1
  exact ⟨i, rfl, q B1 _ s1 H1 h1 r1 e1⟩⟩
theorem px_sl (he : PX X e te x) (hl : POX X lo tl xl) (hh : POX X hi th xh) : PX X (.Subscript e (.Slice lo hi none p2) pos) (tSl (rSlU X.K) te tl th) (xSl slR x xl xh) :=
  ⟨pe_slice sl_U he.pe hl.po hh.po, fun Z z st k hk B σ H rl Q q => he.sn Z z st _ hk B σ H rl _ fun B1 v t s1 H1 h1 r1 e1 d1 => hl.sn Z z s1 _ h1 B1 σ H1 r1 _ fun B2 lo s2 H2 h2 r2 e2 => hh.sn Z z s2 _ h2 B2 σ H2 r2 _ fun B3 hi s3 H3 ⟨w, hw, h3⟩ r3 e3 =>
    (show RSS Z.K (rSlU X.K) slR by rw [z]; exact rs_sl) B3 H3 v t lo hi w r3.bk ((d1.mono e2).mono e3) hw Q fun B4 u H4 s d => q B4 u w s3 H4 h3 (r3.stp s) (((e1.trans e2).trans e3).trans s.bb) d⟩
end
/-! ### built-ins by values -/
inductive lenR : List T → T → Prop
  | lst {ts : List T} : lenR [.lst ts] (.int ts.length)
  | tup {ts : List T} : lenR [.tup ts] (.int ts.length)
  | scr {ts : List T} : lenR [.scr ts] (.int ts.length)
theorem rs_len {K : PySem.W.Frag} : RSA K (fun xs H Q => ∃ p ys, xs = [.ref p] ∧ (SqL K H p ys ∨ SqT K H p ys) ∧ Q (.int ys.length) H) lenR := fun B H vs xs z e d hg Q q => by
  cases hg with
  | lst =>
    cases d with
    | cons d1 d2 =>
      cases d2
      cases d1 with
      | lst h s => exact ⟨_, _, rfl, .inl (SqL.of (e _ _ h)), by rw [s.length]; exact q B _ H (Stp.refl e) (.int _)⟩
  | tup =>
    cases d with
    | cons d1 d2 =>
      cases d2
      cases d1 with
      | tup h s => exact ⟨_, _, rfl, .inr (SqT.of (e _ _ h)), by rw [s.length]; exact q B _ H (Stp.refl e) (.int _)⟩
  | scr =>
    cases d with
    | cons d1 d2 =>
      cases d2
      cases d1 with
      | scr h s => exact ⟨_, _, rfl, .inl (e.sl h), by rw [s.length]; exact q B _ H (Stp.refl e) (.int _)⟩
inductive tupR : List T → T → Prop
  | lst {ts : List T} : tupR [.lst ts] (.tup ts)
  | tup {ts : List T} : tupR [.tup ts] (.tup ts)
theorem rs_tuple {K : PySem.W.Frag} : RSA K (fun xs H Q => ∃ p ys, xs = [.ref p] ∧ ((SqL K H p ys ∧ ∀ l, H l = none → Q (.ref l) (upd H l (.tup ys))) ∨ (SqT K H p ys ∧ Q (.ref p) H))) tupR := fun B H vs xs z e d hg Q q => by
  cases hg with
  | lst =>
    cases d with
    | cons d1 d2 =>
      cases d2
      cases d1 with
      | @lst _ vs _ h s =>
        refine ⟨_, _, rfl, .inl ⟨SqL.of (e _ _ h), fun l hl => ?_⟩⟩
        have st := Stp.new (o := .tup vs) e hl
        exact q _ _ _ st (.tup upd_same (Dns.mono st.bb s))
  | tup =>
    cases d with
    | cons d1 d2 =>
      cases d2
      cases d1 with
      | tup h s => exact ⟨_, _, rfl, .inr ⟨SqT.of (e _ _ h), q B _ H (Stp.refl e) (.tup h s)⟩⟩
inductive listR : List T → Ob → Prop
  | lst {ts : List T} : listR [.lst ts] (.lst ts)
  | tup {ts : List T} : listR [.tup ts] (.lst ts)
theorem rs_list {K : PySem.W.Frag} : RSN K (fun xs H Q => ∃ p ys, xs = [.ref p] ∧ (SqL K H p ys ∨ SqT K H p ys) ∧ ∀ l, H l = none → Q (.ref l) (upd H l (.lst ys))) listR := fun B H vs xs z e d hg Q q => by
  cases hg with
  | lst =>
    cases d with
    | cons d1 d2 =>
      cases d2
      cases d1 with
      | lst h s => exact ⟨_, _, rfl, .inl (SqL.of (e _ _ h)), fun l hl => q l _ hl s⟩
  | tup =>
    cases d with
    | cons d1 d2 =>
      cases d2
      cases d1 with
      | tup h s => exact ⟨_, _, rfl, .inr (SqT.of (e _ _ h)), fun l hl => q l _ hl s⟩
inductive intCR : List T → T → Prop
  | int {i : Int} : intCR [.int i] (.int i)
theorem rs_int {K : PySem.W.Frag} : RSA K (fun xs H Q => (∃ i, xs = [.int i] ∧ Q (.int i) H) ∨ ∃ k, xs = [.bl k] ∧ Q (.int (if k then 1 else 0)) H) intCR := fun B H vs xs z e d hg Q q => by
  cases hg with
  | int =>
    cases d with
    | cons d1 d2 =>
      cases d2
      cases d1
      exact .inl ⟨_, rfl, q B _ H (Stp.refl e) (.int _)⟩
inductive strCR : List T → T → Prop
  | int {i : Int} (h : i.natAbs.log2 < 1920) : strCR [.int i] (.str (toString i))
theorem rs_str {K : PySem.W.Frag} : RSA K (fun xs H Q => ∃ i, xs = [.int i] ∧ i.natAbs.log2 < 1920 ∧ Q (.str (toString i)) H) strCR := fun B H vs xs z e d hg Q q => by
  cases hg with
  | int h =>
    cases d with
    | cons d1 d2 =>
      cases d2
      cases d1
      exact ⟨_, rfl, h, q B _ H (Stp.refl e) (.str _)⟩
/-! sorted of a list of ints -/
def srt (ns : List Int) : List Int := ns.mergeSort (fun a b => decide (a ≤ b))
theorem srt_perm (ns : List Int) : (srt ns).Perm ns := List.mergeSort_perm _ _
theorem srt_rising (ns : List Int) : (srt ns).Pairwise (· ≤ ·) := by
  have h := List.pairwise_mergeSort (le := fun a b : Int => decide (a ≤ b)) (fun a b c h1 h2 => by simp at *; omega) (fun a b => by simp; omega) ns
  exact h.imp fun {a b} h => of_decide_eq_true h
theorem rising_uniq : ∀ {l m : List Int}, l.Perm m → l.Pairwise (· ≤ ·) → m.Pairwise (· ≤ ·) → l = m
  | [], m, p, _, _ => (p.symm.eq_nil).symm
  | x :: l, [], p, _, _ => by
    have := p.length_eq
    simp at this
  | x :: l, y :: m, p, h1, h2 => by
    have e : x = y := by
      have a1 : y ∈ x :: l := p.mem_iff.mpr List.mem_cons_self
      have a2 : x ∈ y :: m := p.mem_iff.mp List.mem_cons_self
      have b1 : x ≤ y := by
        rcases List.mem_cons.mp a1 with h | h
        · omega
        · exact (List.pairwise_cons.mp h1).1 y h
      have b2 : y ≤ x := by
        rcases List.mem_cons.mp a2 with h | h
        · omega
        · exact (List.pairwise_cons.mp h2).1 x h
      omega
    subst e
    rw [rising_uniq p.cons_inv (List.pairwise_cons.mp h1).2 (List.pairwise_cons.mp h2).2]
inductive sortR : List T → Ob → Prop
  | mk {ns : List Int} : sortR [.lst (ns.map T.int)] (.lst ((srt ns).map T.int))
theorem rs_sorted {K : PySem.W.Frag} : RSN K (rSortedI K) sortR := fun B H vs xs z e d hg Q q => by
  cases hg with
  | @mk ns =>
    cases d with
    | cons d1 d2 =>
      cases d2
      cases d1 with
      | lst h s =>
        rw [s.intsV] at h
        refine ⟨_, ns, rfl, SqL.of (e _ _ h), fun ns' p h1 h2 hp => ?_⟩
        rw [rising_uniq (h1.trans (srt_perm ns).symm) h2 (srt_rising ns)]
        exact q p _ hp Dns.ints
/-! list(range(..)), tuple(range(..)) -/
def rgT (a b : Int) : List T := (List.range (b - a).toNat).map fun i => T.int (a + (i : Nat))
theorem Dns.rg {K : PySem.W.Frag} {B : Hp} (a b : Int) : Dns K B (rgV a b) (rgT a b) := by
  have e1 : rgV a b = ((List.range (b - a).toNat).map fun i : Nat => a + (i : Int)).map V.int := by unfold rgV; rw [List.map_map]; rfl
  have e2 : rgT a b = ((List.range (b - a).toNat).map fun i : Nat => a + (i : Int)).map T.int := by unfold rgT; rw [List.map_map]; rfl
  rw [e1, e2]
  exact Dns.ints
abbrev XR := S → (Int → Int → S → Prop) → Prop
abbrev TRg := L2.St → Hp → (Int → Int → Hp → Prop) → Prop
structure PRX (X : Cx) (e : Expr) (t : TRg) (x : XR) : Prop where
  pr : PRg X e t
  sn : ∀ Z : Zone, Z.K = X.K → ∀ st k, x st k → ∀ B σ H, Rl Z B st σ H → ∀ Q : Int → Int → Hp → Prop, (∀ B' i j st' H', k i j st' → Rl Z B' st' σ H' → Ex B B' → Q i j H') → t σ H Q
def xRg1 (a : XE) : XR := fun st k => a st fun t s1 => ∃ n, t = .int n ∧ k 0 n s1
def xRg2 (a b : XE) : XR := fun st k => a st fun t s1 => b s1 fun u s2 => ∃ i j, t = .int i ∧ u = .int j ∧ k i j s2
def xLstRg (r : XR) : XN := fun st k => r st fun i j s1 => RgOk i j ∧ k (.lst (rgT i j)) s1
def xTupRg (r : XR) : XE := fun st k => r st fun i j s1 => RgOk i j ∧ k (.tup (rgT i j)) s1
section
variable {X : Cx} {a b e : Expr} {ta tb : TE} {xa xb : XE} {pos p : Pos} {tr : TRg} {xr : XR}
theorem pr_1 (hg : Gl X "range") (hm : X.mg "range" = none) (ha : PX X a ta xa) (na : starEach [a] X.env = (false, eval a X.env) :: starEach [] X.env := by rfl) : PRX X (.Call (.Name "range" p) [a] [] pos) (tRg1 ta) (xRg1 xa) :=
  ⟨prg_1 hg hm ha.pe na, fun Z z st k h B σ H r Q q => ha.sn Z z st _ h B σ H r _ fun B1 v t s1 H1 ⟨n, hn, h1⟩ r1 e1 d1 => by
    subst hn
    cases d1
    exact ⟨n, rfl, q B1 0 n s1 H1 h1 r1 e1⟩⟩
theorem pr_2 (hg : Gl X "range") (hm : X.mg "range" = none) (ha : PX X a ta xa) (hb : PX X b tb xb) (na : starEach [a, b] X.env = (false, eval a X.env) :: starEach [b] X.env := by rfl)
    (nb : starEach [b] X.env = (false, eval b X.env) :: starEach [] X.env := by rfl) (hp : (backTo pos (starEach [b] X.env)).any (·.1) = false := by rfl) : PRX X (.Call (.Name "range" p) [a, b] [] pos) (tRg2 ta tb) (xRg2 xa xb) :=
  ⟨prg_2 hg hm ha.pe hb.pe na nb hp, fun Z z st k h B σ H r Q q => ha.sn Z z st _ h B σ H r _ fun B1 v t s1 H1 h1 r1 e1 d1 => hb.sn Z z s1 _ h1 B1 σ H1 r1 _ fun B2 w u s2 H2 ⟨i, j, hi, hj, h2⟩ r2 e2 d2 => by
    subst hi hj
    cases d1
    cases d2
    exact ⟨i, j, rfl, rfl, q B2 i j s2 H2 h2 r2 (e1.trans e2)⟩⟩
theorem pn_listRg (hc : X.calm = true) (hg : Gl X "list") (hm : X.mg "list" = none) (he : PRX X e tr xr) (na : starEach [e] X.env = (false, eval e X.env) :: starEach [] X.env := by rfl) : PN X (.Call (.Name "list" p) [e] [] pos) (tLstRg tr) (xLstRg xr) :=
  ⟨pe_listRg hc hg hm he.pr na, fun Z z st k h B σ H r Q q => he.sn Z z st _ h B σ H r _ fun B1 i j s1 H1 ⟨hr, h1⟩ r1 e1 => ⟨hr, fun p hp => q B1 p _ _ s1 _ h1 (r1.stp (Stp.apart r1.bk hp)) e1 (r1.apart hp) upd_same (Dns.rg i j)⟩⟩
theorem px_tupRg (hc : X.calm = true) (hg : Gl X "tuple") (hm : X.mg "tuple" = none) (he : PRX X e tr xr) (na : starEach [e] X.env = (false, eval e X.env) :: starEach [] X.env := by rfl) : PX X (.Call (.Name "tuple" p) [e] [] pos) (tTupRg tr) (xTupRg xr) :=
  ⟨pe_tupRg hc hg hm he.pr na, fun Z z st k h B σ H r Q q => he.sn Z z st _ h B σ H r _ fun B1 i j s1 H1 ⟨hr, h1⟩ r1 e1 => ⟨hr, fun p hp => by
    have s := Stp.new (o := .tup (rgV i j)) r1.bk hp
    exact q _ _ _ s1 _ h1 (r1.stp s) (e1.trans s.bb) (.tup upd_same (Dns.rg i j))⟩⟩
end
end TL

namespace TL
open PySem PySem.Spec PyProof.Rows L2

/-! ### isinstance -/
def tyT : T → Option String
  | .non => some "NoneType"
  | .bl _ => some "bool"
  | .int _ => some "int"
  | .str _ => some "str"
  | .tup _ => some "tuple"
  | .lst _ => some "list"
  | .scr _ => none
  | .adr _ => none
def isi (n : String) (t : T) : Option Bool := (tyT t).bind fun a => kitB a n
theorem Dn.ty {K : PySem.W.Frag} {B H : Hp} {v : V} {t : T} {a : String} (h : Dn K B v t) (e : Ex B H) (q : tyT t = some a) : TyX K H v (.type a) := by
  cases h with
  | non => cases q; exact .base .non
  | bl b => cases q; exact .base (.bl b)
  | int i => cases q; exact .base (.int i)
  | str s => cases q; exact .base (.str s)
  | adr a => cases q
  | tup h s => cases q; exact .base (.tup (e _ _ h))
  | lst h s => cases q; exact .base (.lst (e _ _ h))
  | scr h s => cases q
def xIsi (n : String) (x : XE) : XE := fun st k => x st fun t s1 => ∃ b, isi n t = some b ∧ k (.bl b) s1
section
variable {X : Cx} {a : Expr} {ta : TE} {xa : XE} {pos p p2 : Pos}
theorem px_isi {n : String} {y : Str} (hm : X.mg "isinstance" = none) (ha : PX X a ta xa) (hm2 : X.mg y = none) (hg : Gl X "isinstance") (hg2 : Gl X y) (hv : bootBuiltins y = some (.type n))
    (hn : y ≠ "__name__" := by decide) (hd : (y == ("__debug__" : Str)) = false := by decide)
    (h1 : starEach [a, .Name y p2] X.env = (false, eval a X.env) :: starEach [.Name y p2] X.env := by rfl) (h2 : starEach [.Name y p2] X.env = (false, eval (.Name y p2) X.env) :: starEach [] X.env := by rfl) (h3 : (backTo pos (starEach [.Name y p2] X.env)).any (·.1) = false := by rfl) :
    PX X (.Call (.Name "isinstance" p) [a, .Name y p2] [] pos) (tCB (rIsi X.K) (tCons ta (tCons (tC (.ty n)) tNil))) (xIsi n xa) :=
  ⟨pe_callB call_isi hg hm (by decide +kernel) (pa_cons ha.pe (pa_cons (pe_bltn hg2 hm2 hv rfl hn hd) pa_nil h2) h1) (by decide) (by decide) h1 h3, fun Z z st k h B σ H r Q q => ha.sn Z z st _ h B σ H r _ fun B1 v t s1 H1 ⟨b, hb, h1⟩ r1 e1 d1 => by
    unfold isi at hb
    cases e : tyT t with
    | none => rw [e] at hb; cases hb
    | some c =>
      rw [e] at hb
      refine ⟨v, .ty n, .type c, .type n, b, rfl, .ty n, ?_, kit_ty hb, q B1 _ _ s1 H1 h1 r1 e1 (.bl b)⟩
      rw [← z]
      exact d1.ty r1.bk e⟩
end

/-! ### what a def promises -/
inductive Rt where
  | fr (t : T) | nw (c : Ob)
abbrev XF := List T → (Rt → Prop) → Prop
abbrev XFT := List T → List T → (Rt → List T → Prop) → Prop
def RtOk (K : PySem.W.Frag) (B' H H' : Hp) (v : V) : Rt → Prop
  | .fr t => Dn K B' v t
  | .nw c => ∃ p o, v = .ref p ∧ B' p = none ∧ H p = none ∧ H' p = some o ∧ Od K B' o c
def spP (K : PySem.W.Frag) (P : XF) : Sp := fun vs H Q _ => ∃ B ts k, Ex B H ∧ Dns K B vs ts ∧ P ts k ∧ ∀ r B' v H', k r → Stp B H B' H' → RtOk K B' H H' v r → Q v H'
structure StpT (a : Addr) (B H B' H' : Hp) : Prop where
  bb : Ex B B'
  hh : ∀ b o, b ≠ a → H b = some o → H' b = some o
  bh : Ex B' H'
  nw : ∀ b o, B' b = some o → H b = none ∨ B b = some o
def spT (K : PySem.W.Frag) (P : XFT) : Sp := fun vs H Q _ => ∃ B a tp ts vs' k, vs = .ref a :: vs' ∧ B a = none ∧ Ex B H ∧ (∃ o, H a = some o ∧ Od K B o (.lst tp)) ∧ Dns K B vs' ts ∧ P ts tp k ∧
  ∀ r tp' B' v H', k r tp' → StpT a B H B' H' → (∃ o, H' a = some o ∧ Od K B' o (.lst tp')) → RtOk K B' H H' v r → Q v H'
theorem Rl.stpT {Z : Zone} {B B' : Hp} {st : S} {σ : L2.St} {H H' : Hp} (r : Rl Z B st σ H) {a : Addr} {tp tp' : List T} (e : st.tp = some (a, tp)) (s : StpT a B H B' H') (h : ∃ o, H' a = some o ∧ Od Z.K B' o (.lst tp')) : Rl Z B' (st.tape (some (a, tp'))) σ H' := by
  obtain ⟨x1, x2, o1, x3, x4⟩ := r.tp a tp e
  have old : ∀ p o, H p = some o → B p = none → B' p = none := fun p o h1 h2 => by
    cases q : B' p with
    | none => rfl
    | some u =>
      rcases s.nw p u q with z | z
      · rw [h1] at z
        cases z
      · rw [h2] at z
        cases z
  refine ⟨fun b o q => s.hh b o (ne_of_none q x2) (r.fk b o q), s.bh, r.b0.trans s.bb, fun b o q => ?_, r.len, fun i t q => ?_, fun i c q => ?_, r.di, fun b t q => ?_⟩
  · rcases s.nw b o q with z | z
    · exact .inl (r.fk.free z)
    · exact r.nw b o z
  · obtain ⟨v, h1, h2⟩ := r.fr i t q
    exact ⟨v, h1, h2.mono s.bb⟩
  · obtain ⟨p, o, h1, h2, h3, h4, h5, h6⟩ := r.ow i c q
    have ne : p ≠ a := h6 a tp e
    refine ⟨p, o, h1, s.hh p o ne h2, h3.mono s.bb, old p o h2 h4, h5, fun b t z => ?_⟩
    have z' : some (a, tp') = some (b, t) := z
    cases z'
    exact ne
  · have z' : some (a, tp') = some (b, t) := q
    cases z'
    obtain ⟨o, h1, h2⟩ := h
    exact ⟨old a o1 x3 x1, x2, o, h1, h2⟩

/-- a def that may be called by its name -/
structure Cal (P : Program) (w : World) (K : PySem.W.Frag) (mg : Str → Option Value) (base : Heap) (k : Nat) (x : Str) (ps : List Str) (sp : Sp) : Prop where
  ex : ∃ f fd, FnOk P w K mg base CX0 k f fd ps sp ∧ mg x = some (.ref f) ∧ PySem.W.keepIn K (.ref f) = true ∧ Binds K fd ps []
def xCall (P : XF) (xs : XA) : XE := fun st k => xs st fun ts s1 => P ts fun r => match r with
  | .fr t => k t s1
  | .nw (.lst us) => k (.lst us) s1
  | .nw _ => False
def xCallN (P : XF) (xs : XA) : XN := fun st k => xs st fun ts s1 => P ts fun r => match r with
  | .fr _ => False
  | .nw c => k c s1
def xCallT (P : XFT) (xs : XA) : XE := fun st k => xs st fun ts s1 => ∃ a us tp, ts = .adr a :: us ∧ s1.tp = some (a, tp) ∧ P us tp fun r tp' => match r with
  | .fr t => k t (s1.tape (some (a, tp')))
  | .nw (.lst us) => k (.lst us) (s1.tape (some (a, tp')))
  | .nw _ => False
def xCallTN (P : XFT) (xs : XA) : XN := fun st k => xs st fun ts s1 => ∃ a us tp, ts = .adr a :: us ∧ s1.tp = some (a, tp) ∧ P us tp fun r tp' => match r with
  | .fr _ => False
  | .nw c => k c (s1.tape (some (a, tp')))
section
variable {X : Cx} {k : Nat} {x : Str} {ps : List Str} {e : Expr} {es : List Expr} {tA : TA} {xs : XA} {pos p : Pos} {P : XF} {PT : XFT}
theorem pe_cal {sp : Sp} (C : Cal X.prog X.w X.K X.mg X.base k x ps sp) (hr : Room k X.A) (hg : Gl X x) (ha : PA X (e :: es) tA) (hdb : (x == ("__debug__" : Str)) = false := by decide)
    (he : starEach (e :: es) X.env = (false, eval e X.env) :: starEach es X.env := by rfl) (hpl : (backTo pos (starEach es X.env)).any (·.1) = false := by rfl) : PE X (.Call (.Name x p) (e :: es) [] pos) (tCall sp [] E0 tA) := by
  obtain ⟨f, fd, F, hm, hk, hb⟩ := C.ex
  exact pe_call F hr hg hm hk hb .nil pass0 ha hdb he hpl
theorem Rl.rt_lst {Z : Zone} {B : Hp} {st : S} {σ : L2.St} {H H0 : Hp} {v : V} {us : List T} (r : Rl Z B st σ H) (h : RtOk Z.K B H0 H v (.nw (.lst us))) (hf : ∀ p, H0 p = none → Apt Z B st σ p) : ∃ B', Ex B B' ∧ Rl Z B' st σ H ∧ Dn Z.K B' v (.lst us) := by
  obtain ⟨p, o, rfl, h1, h2, h3, h4⟩ := h
  exact r.frz (hf p h2) h3 h4
theorem px_call (C : Cal X.prog X.w X.K X.mg X.base k x ps (spP X.K P)) (hr : Room k X.A) (hg : Gl X x) (ha : PAX X (e :: es) tA xs) (hdb : (x == ("__debug__" : Str)) = false := by decide)
    (he : starEach (e :: es) X.env = (false, eval e X.env) :: starEach es X.env := by rfl) (hpl : (backTo pos (starEach es X.env)).any (·.1) = false := by rfl) : PX X (.Call (.Name x p) (e :: es) [] pos) (tCall (spP X.K P) [] E0 tA) (xCall P xs) :=
  ⟨pe_cal C hr hg ha.pa hdb he hpl, fun Z z st k h B σ H r Q q => ha.sn Z z st _ h B σ H r _ fun B1 vs ts s1 H1 hP r1 e1 d1 => by
    show spP X.K P (vs ++ []) H1 Q E0
    rw [List.append_nil, ← z]
    refine ⟨B1, ts, _, r1.bk, d1, hP, fun rt B2 v H2 hk s hv => ?_⟩
    cases rt with
    | fr t => exact q B2 v t s1 H2 hk (r1.stp s) (e1.trans s.bb) hv
    | nw c =>
      cases c with
      | lst us =>
        have a0 : ∀ p, H1 p = none → B2 p = none → Apt Z B2 s1 σ p := fun p hp hb => by
          have a1 := r1.apart hp
          exact ⟨hb, a1.f, a1.o, a1.t⟩
        obtain ⟨p, o, rfl, g1, g2, g3, g4⟩ := hv
        obtain ⟨B3, e3, r3, d3⟩ := (r1.stp s).frz (a0 p g2 g1) g3 g4
        exact q B3 _ _ s1 H2 hk r3 ((e1.trans s.bb).trans e3) d3
      | dk _ => exact (show False from hk).elim
      | dt _ => exact (show False from hk).elim⟩
theorem pn_call (C : Cal X.prog X.w X.K X.mg X.base k x ps (spP X.K P)) (hr : Room k X.A) (hg : Gl X x) (ha : PAX X (e :: es) tA xs) (hdb : (x == ("__debug__" : Str)) = false := by decide)
    (he : starEach (e :: es) X.env = (false, eval e X.env) :: starEach es X.env := by rfl) (hpl : (backTo pos (starEach es X.env)).any (·.1) = false := by rfl) : PN X (.Call (.Name x p) (e :: es) [] pos) (tCall (spP X.K P) [] E0 tA) (xCallN P xs) :=
  ⟨pe_cal C hr hg ha.pa hdb he hpl, fun Z z st k h B σ H r Q q => ha.sn Z z st _ h B σ H r _ fun B1 vs ts s1 H1 hP r1 e1 d1 => by
    show spP X.K P (vs ++ []) H1 Q E0
    rw [List.append_nil, ← z]
    refine ⟨B1, ts, _, r1.bk, d1, hP, fun rt B2 v H2 hk s hv => ?_⟩
    cases rt with
    | fr t => exact (show False from hk).elim
    | nw c =>
      obtain ⟨p, o, rfl, g1, g2, g3, g4⟩ := hv
      have a1 := r1.apart g2
      exact q B2 p o c s1 H2 hk (r1.stp s) (e1.trans s.bb) ⟨g1, a1.f, a1.o, a1.t⟩ g3 g4⟩
theorem px_callT (C : Cal X.prog X.w X.K X.mg X.base k x ps (spT X.K PT)) (hr : Room k X.A) (hg : Gl X x) (ha : PAX X (e :: es) tA xs) (hdb : (x == ("__debug__" : Str)) = false := by decide)
    (he : starEach (e :: es) X.env = (false, eval e X.env) :: starEach es X.env := by rfl) (hpl : (backTo pos (starEach es X.env)).any (·.1) = false := by rfl) : PX X (.Call (.Name x p) (e :: es) [] pos) (tCall (spT X.K PT) [] E0 tA) (xCallT PT xs) :=
  ⟨pe_cal C hr hg ha.pa hdb he hpl, fun Z z st k h B σ H r Q q => ha.sn Z z st _ h B σ H r _ fun B1 vs ts s1 H1 hP r1 e1 d1 => by
    show spT X.K PT (vs ++ []) H1 Q E0
    rw [List.append_nil, ← z]
    obtain ⟨a, us, tp, rfl, ht, hP⟩ := hP
    cases d1 with
    | cons d0 d1 =>
      cases d0
      obtain ⟨x1, x2, x3⟩ := r1.tp a tp ht
      refine ⟨B1, a, tp, us, _, _, rfl, x1, r1.bk, x3, d1, hP, fun rt tp' B2 v H2 hk s ho hv => ?_⟩
      have r2 := r1.stpT ht s ho
      cases rt with
      | fr t => exact q B2 v t _ H2 hk r2 (e1.trans s.bb) hv
      | nw c =>
        cases c with
        | lst us =>
          obtain ⟨p, o, rfl, g1, g2, g3, g4⟩ := hv
          have a1 := r1.apart g2
          have a2 : Apt Z B2 (s1.tape (some (a, tp'))) σ p := ⟨g1, a1.f, a1.o, fun b t q => by
            have z' : some (a, tp') = some (b, t) := q
            cases z'
            exact a1.t a tp ht⟩
          obtain ⟨B3, e3, r3, d3⟩ := r2.frz a2 g3 g4
          exact q B3 _ _ _ H2 hk r3 ((e1.trans s.bb).trans e3) d3
        | dk _ => exact (show False from hk).elim
        | dt _ => exact (show False from hk).elim⟩
theorem pn_callT (C : Cal X.prog X.w X.K X.mg X.base k x ps (spT X.K PT)) (hr : Room k X.A) (hg : Gl X x) (ha : PAX X (e :: es) tA xs) (hdb : (x == ("__debug__" : Str)) = false := by decide)
    (he : starEach (e :: es) X.env = (false, eval e X.env) :: starEach es X.env := by rfl) (hpl : (backTo pos (starEach es X.env)).any (·.1) = false := by rfl) : PN X (.Call (.Name x p) (e :: es) [] pos) (tCall (spT X.K PT) [] E0 tA) (xCallTN PT xs) :=
  ⟨pe_cal C hr hg ha.pa hdb he hpl, fun Z z st k h B σ H r Q q => ha.sn Z z st _ h B σ H r _ fun B1 vs ts s1 H1 hP r1 e1 d1 => by
    show spT X.K PT (vs ++ []) H1 Q E0
    rw [List.append_nil, ← z]
    obtain ⟨a, us, tp, rfl, ht, hP⟩ := hP
    cases d1 with
    | cons d0 d1 =>
      cases d0
      obtain ⟨x1, x2, x3⟩ := r1.tp a tp ht
      refine ⟨B1, a, tp, us, _, _, rfl, x1, r1.bk, x3, d1, hP, fun rt tp' B2 v H2 hk s ho hv => ?_⟩
      have r2 := r1.stpT ht s ho
      cases rt with
      | fr t => exact (show False from hk).elim
      | nw c =>
        obtain ⟨p, o, rfl, g1, g2, g3, g4⟩ := hv
        have a1 := r1.apart g2
        exact q B2 p o c _ H2 hk r2 (e1.trans s.bb) ⟨g1, a1.f, a1.o, fun b t q => by
            have z' : some (a, tp') = some (b, t) := q
            cases z'
            exact a1.t a tp ht⟩ g3 g4⟩
end
end TL

namespace TL
open PySem PySem.Spec PyProof.Rows L2

/-! ### statements -/
structure Dx where
  nx : S → Prop
  rt : Rt → S → Prop
  bk : S → Prop := fun _ => False
  ct : S → Prop := fun _ => False
abbrev XS := Dx → S → Prop
def RtIn (Z : Zone) (B : Hp) (st : S) (σ : L2.St) (H : Hp) (v : V) : Rt → Prop
  | .fr t => Dn Z.K B v t
  | .nw c => ∃ p o, v = .ref p ∧ Apt Z B st σ p ∧ H p = some o ∧ Od Z.K B o c
structure Dok (Z : Zone) (B : Hp) (D : Dx) (D' : Ends) : Prop where
  nx : ∀ B' st σ H, D.nx st → Ex B B' → Rl Z B' st σ H → D'.nx σ H
  rt : ∀ B' v r st σ H, D.rt r st → Ex B B' → Rl Z B' st σ H → RtIn Z B' st σ H v r → D'.rt v H
  bk : ∀ B' st σ H, D.bk st → Ex B B' → Rl Z B' st σ H → D'.bk σ H
  ct : ∀ B' st σ H, D.ct st → Ex B B' → Rl Z B' st σ H → D'.ct σ H
theorem Dok.mono {Z : Zone} {B B1 : Hp} {D : Dx} {D' : Ends} (d : Dok Z B D D') (e : Ex B B1) : Dok Z B1 D D' :=
  ⟨fun B' st σ H h x => d.nx B' st σ H h (e.trans x), fun B' v r st σ H h x => d.rt B' v r st σ H h (e.trans x), fun B' st σ H h x => d.bk B' st σ H h (e.trans x), fun B' st σ H h x => d.ct B' st σ H h (e.trans x)⟩
def SndS (Z : Zone) (ts : TS) (xs : XS) : Prop := ∀ D st, xs D st → ∀ B σ H, Rl Z B st σ H → ∀ D' : Ends, Dok Z B D D' → ts D' σ H
structure PSX (X : Cx) (s : Stmt) (ts : TS) (xs : XS) : Prop where
  ps : PS X s ts
  sn : ∀ Z : Zone, Z.K = X.K → SndS Z ts xs
structure PSB (X : Cx) (s : List Stmt) (ts : TS) (xs : XS) : Prop where
  ps : PSs X s ts
  sn : ∀ Z : Zone, Z.K = X.K → SndS Z ts xs
def xNext : XS := fun D st => D.nx st
def xSeq (a b : XS) : XS := fun D st => a { D with nx := b D } st
def xBreak : XS := fun D st => D.bk st
def xCont : XS := fun D st => D.ct st
def xDrop (x : XE) : XS := fun D st => x st fun _ s1 => D.nx s1
def xRet (x : XE) : XS := fun D st => x st fun t s1 => D.rt (.fr t) s1
def xRetN : XS := fun D st => D.rt (.fr .non) st
def xRetW (x : XN) : XS := fun D st => x st fun c s1 => D.rt (.nw c) s1
/-- return of an owned list -/
def xRetO (i : Nat) : XS := fun D st => ∃ c, st.ds[i]? = some (Slot.ow c) ∧ D.rt (.nw c) (st.put i .un)
def xIfS (t : XT) (a b : XS) : XS := fun D st => t st fun c s1 => if c = true then a D s1 else b D s1
def xSet (i : Nat) (x : XE) : XS := fun D st => x st fun t s1 => i < s1.ds.length ∧ D.nx (s1.put i (.fr t))
def xSetW (i : Nat) (x : XN) : XS := fun D st => x st fun c s1 => i < s1.ds.length ∧ D.nx (s1.put i (.ow c))
section
variable {X : Cx} {s : Stmt} {ss : List Stmt} {t u : TS} {x y : XS} {e : Expr} {te : TE} {xe : XE} {xn : XN} {pos : Pos} {c : Expr} {tc : TT} {xc : XT} {a b : List Stmt} {i : Nat}
theorem sx_nil : PSB X [] tNext xNext := ⟨pss_nil, fun Z _ D st h B σ H r D' d => d.nx B st σ H h (Ex.refl B) r⟩
theorem snd_seq {Z : Zone} (h1 : SndS Z t x) (h2 : SndS Z u y) : SndS Z (tSeq t u) (xSeq x y) := fun D st h B σ H r D' d =>
  h1 _ st h B σ H r { D' with nx := u D' } ⟨fun B' st' σ' H' hn e r' => h2 D st' hn B' σ' H' r' D' (d.mono e), d.rt, d.bk, d.ct⟩
theorem sx_cons (h1 : PSX X s t x) (h2 : PSB X ss u y) : PSB X (s :: ss) (tSeq t u) (xSeq x y) := ⟨pss_cons h1.ps h2.ps, fun Z z => snd_seq (h1.sn Z z) (h2.sn Z z)⟩
theorem sx_one (h1 : PSX X s t x) : PSB X [s] t x := ⟨pss_one h1.ps, h1.sn⟩
theorem sx_pass : PSX X (.Pass pos) tNext xNext := ⟨ps_pass, sx_nil (X := X) |>.sn⟩
theorem sx_break : PSX X (.Break pos) tBreak xBreak := ⟨ps_break, fun Z _ D st h B σ H r D' d => d.bk B st σ H h (Ex.refl B) r⟩
theorem sx_cont : PSX X (.Continue pos) tCont xCont := ⟨ps_continue, fun Z _ D st h B σ H r D' d => d.ct B st σ H h (Ex.refl B) r⟩
theorem sx_expr (he : PX X e te xe) (hs : swapsWith e none pos.line X.env = pure false := by rfl) : PSX X (.Expr e pos) (tDrop te) (xDrop xe) :=
  ⟨ps_expr he.pe hs, fun Z z D st h B σ H r D' d => he.sn Z z st _ h B σ H r _ fun B1 v t s1 H1 h1 r1 e1 _ => d.nx B1 s1 σ H1 h1 e1 r1⟩
theorem sx_ret (he : PX X e te xe) : PSX X (.Return (some e) pos) (tRet te) (xRet xe) :=
  ⟨ps_ret he.pe, fun Z z D st h B σ H r D' d => he.sn Z z st _ h B σ H r _ fun B1 v t s1 H1 h1 r1 e1 dn => d.rt B1 v (.fr t) s1 σ H1 h1 e1 r1 dn⟩
theorem sx_retN : PSX X (.Return none pos) tRetN xRetN := ⟨ps_retN, fun Z z D st h B σ H r D' d => d.rt B .non (.fr .non) st σ H h (Ex.refl B) r .non⟩
theorem sx_retW (he : PN X e te xn) : PSX X (.Return (some e) pos) (tRet te) (xRetW xn) :=
  ⟨ps_ret he.pe, fun Z z D st h B σ H r D' d => he.sn Z z st _ h B σ H r _ fun B1 p o c s1 H1 h1 r1 e1 a hp ho => d.rt B1 (.ref p) (.nw c) s1 σ H1 h1 e1 r1 ⟨p, o, rfl, a, hp, ho⟩⟩
theorem sx_retO {n : Str} {p2 : Pos} (he : PE X (.Name n p2) (tVar i)) : PSX X (.Return (some (.Name n p2)) pos) (tRet (tVar i)) (xRetO i) :=
  ⟨ps_ret he, fun Z z D st ⟨c, hc, h⟩ B σ H r D' d => by
    obtain ⟨p, o, h1, h2, h3, h4, h5, h6⟩ := r.ow i c hc
    have hi : i < st.ds.length := (List.getElem?_eq_some_iff.mp hc).1
    refine ⟨.ref p, h1, d.rt B (.ref p) (.nw c) _ σ H h (Ex.refl B) r.drop ⟨p, o, rfl, ⟨h4, h5, fun j c' q w => ?_, h6⟩, h2, h3⟩⟩
    by_cases hj : i = j
    · subst hj
      rw [List.getElem?_set_self hi] at q
      cases q
    · rw [List.getElem?_set_ne hj] at q
      exact r.di i j c c' p hj hc q h1 w⟩
theorem sx_if (hc : PB X c tc xc) (ha : PSB X a t x) (hb : PSB X b u y) : PSX X (.If c a b pos) (tIfS tc t u) (xIfS xc x y) :=
  ⟨ps_if hc.pt ha.ps hb.ps, fun Z z D st h B σ H r D' d => hc.sn Z z st _ h B σ H r _ fun B1 k s1 H1 h1 r1 e1 => by
    cases k with
    | true =>
      show t D' σ H1
      exact ha.sn Z z D s1 h1 B1 σ H1 r1 D' (d.mono e1)
    | false =>
      show u D' σ H1
      exact hb.sn Z z D s1 h1 B1 σ H1 r1 D' (d.mono e1)⟩
theorem snd_set {Z : Zone} (he : SndE Z te xe) : SndS Z (tAsg te (gName i)) (xSet i xe) := fun D st h B σ H r D' d => he st _ h B σ H r _ fun B1 v t s1 H1 ⟨hi, h1⟩ r1 e1 dn => d.nx B1 _ _ H1 h1 e1 (r1.put hi dn)
theorem snd_setW {Z : Zone} (he : SndN Z te xn) : SndS Z (tAsg te (gName i)) (xSetW i xn) := fun D st h B σ H r D' d => he st _ h B σ H r _ fun B1 p o c s1 H1 ⟨hi, h1⟩ r1 e1 a hp ho => d.nx B1 _ _ H1 h1 e1 (r1.putO hi a hp ho)
theorem sx_set {n : Str} {p2 : Pos} (hN : X.N.Nodup) (hi : X.N[i]? = some n) (hx : Loc X.env.scope n) (he : PX X e te xe) (hs : swapsWith e (some (.Name n p2)) pos.line X.env = pure false := by rfl) (hf : X.fn n = true ∨ X.env.scope.names.lookup n = some .local := by first | exact .inl rfl | exact .inr rfl | assumption) :
    PSX X (.Assign [.Name n p2] e pos) (tAsg te (gName i)) (xSet i xe) := ⟨ps_set hN hi hx he.pe hs hf, fun Z z => snd_set (he.sn Z z)⟩
theorem sx_setW {n : Str} {p2 : Pos} (hN : X.N.Nodup) (hi : X.N[i]? = some n) (hx : Loc X.env.scope n) (he : PN X e te xn) (hs : swapsWith e (some (.Name n p2)) pos.line X.env = pure false := by rfl) (hf : X.fn n = true ∨ X.env.scope.names.lookup n = some .local := by first | exact .inl rfl | exact .inr rfl | assumption) :
    PSX X (.Assign [.Name n p2] e pos) (tAsg te (gName i)) (xSetW i xn) := ⟨ps_set hN hi hx he.pe hs hf, fun Z z => snd_setW (he.sn Z z)⟩
/-- what is said of an owned list is from here on said of a known one -/
def xFreeze (i : Nat) (x : XS) : XS := fun D st => ∃ ts, st.ds[i]? = some (Slot.ow (.lst ts)) ∧ x D (st.put i (.fr (.lst ts)))
theorem sx_freeze (i : Nat) (h : PSB X ss t x) : PSB X ss t (xFreeze i x) := ⟨h.ps, fun Z z D st ⟨ts, ht, h1⟩ B σ H r D' d => by
  obtain ⟨B', e, r'⟩ := r.freeze ht
  exact h.sn Z z D _ h1 B' σ H r' D' (d.mono e)⟩
end

/-! ### a def by its body -/
def unS (n : Nat) : List Slot := List.replicate n .un
def stP (n : Nat) (ts : List T) : S := ⟨ts.map Slot.fr ++ unS (n - ts.length), none⟩
def stT (n : Nat) (a : Addr) (tp ts : List T) : S := ⟨(Slot.fr (.adr a) :: ts.map Slot.fr) ++ unS (n - (ts.length + 1)), some (a, tp)⟩
def enP (k : Rt → Prop) : Dx := ⟨fun _ => k (.fr .non), fun r _ => k r, fun _ => False, fun _ => False⟩
def enT (a : Addr) (k : Rt → List T → Prop) : Dx := ⟨fun st => ∃ tp, st.tp = some (a, tp) ∧ k (.fr .non) tp, fun r st => ∃ tp, st.tp = some (a, tp) ∧ k r tp, fun _ => False, fun _ => False⟩
theorem start_fr {K : PySem.W.Frag} {B : Hp} : ∀ {vs : List V} {ts : List T} (h : Dns K B vs ts) (m : Nat) (i : Nat) (t : T), (ts.map Slot.fr ++ unS m)[i]? = some (Slot.fr t) → ∃ v, (vs.map some ++ List.replicate m none)[i]? = some (some v) ∧ Dn K B v t
  | _, _, .nil, m, i, t, e => by
    have z : (unS m)[i]? = some (Slot.fr t) := e
    unfold unS at z
    rw [List.getElem?_replicate] at z
    split at z <;> cases z
  | _, _, .cons h hs, m, 0, t, e => by
    have z : some _ = some (Slot.fr t) := e
    cases z
    exact ⟨_, rfl, h⟩
  | _, _, .cons h hs, m, i + 1, t, e => start_fr hs m i t e
theorem start_ow : ∀ (ts : List T) (m : Nat) (i : Nat) (c : Ob), (ts.map Slot.fr ++ unS m)[i]? ≠ some (Slot.ow c)
  | [], m, i, c => fun e => by
    have z : (unS m)[i]? = some (Slot.ow c) := e
    unfold unS at z
    rw [List.getElem?_replicate] at z
    split at z <;> cases z
  | t :: ts, m, 0, c => fun e => by
    have z : some (Slot.fr t) = some (Slot.ow c) := e
    cases z
  | t :: ts, m, i + 1, c => start_ow ts m i c
theorem rl_start {K : PySem.W.Frag} {B H : Hp} {N : List Str} {vs : List V} {ts : List T} (e : Ex B H) (h : Dns K B vs ts) : Rl ⟨K, B, H⟩ B (stP N.length ts) (L2.start N vs) H where
  fk := Ex.refl H
  bk := e
  b0 := Ex.refl B
  nw := fun a o q => .inr q
  len := by
    unfold L2.start stP unS
    simp [h.length]
  fr := fun i t q => by
    unfold L2.start
    rw [h.length]
    exact start_fr h _ i t q
  ow := fun i c q => absurd q (start_ow ts _ i c)
  di := fun i j c d p _ q => absurd q (start_ow ts _ i c)
  tp := fun a t q => by cases (show none = some (a, t) from q)
def era (H : Hp) (a : Addr) : Hp := fun b => if b = a then none else H b
theorem era_same {H : Hp} {a : Addr} : era H a a = none := by unfold era; rw [if_pos rfl]
theorem era_ne {H : Hp} {a b : Addr} (h : b ≠ a) : era H a b = H b := by unfold era; rw [if_neg h]
theorem rl_startT {K : PySem.W.Frag} {B H : Hp} {N : List Str} {vs : List V} {ts : List T} {a : Addr} {tp : List T} (e : Ex B H) (h : Dns K B vs ts) (ha : B a = none) (ho : ∃ o, H a = some o ∧ Od K B o (.lst tp)) :
    Rl ⟨K, B, era H a⟩ B (stT N.length a tp ts) (L2.start N (.ref a :: vs)) H where
  fk := fun b o q => by
    by_cases z : b = a
    · subst z
      have q' : era H b b = some o := q
      rw [era_same] at q'
      cases q'
    · have q' : era H a b = some o := q
      rw [era_ne z] at q'
      exact q'
  bk := e
  b0 := Ex.refl B
  nw := fun a o q => .inr q
  len := by
    unfold L2.start stT unS
    simp [h.length]
  fr := fun i t q => by
    unfold L2.start
    rw [List.length_cons, h.length]
    exact start_fr (.cons (.adr a) h) _ i t q
  ow := fun i c q => absurd q (start_ow (.adr a :: ts) _ i c)
  di := fun i j c d p _ q => absurd q (start_ow (.adr a :: ts) _ i c)
  tp := fun b t q => by
    have z : some (a, tp) = some (b, t) := q
    cases z
    exact ⟨ha, era_same, ho⟩
section
variable {P : Program} {w : World} {K : PySem.W.Frag} {mg : Str → Option Value} {base : Heap}
theorem cal_P {x : Str} {st : Stmt} {f : Addr} {fd : FuncData} {N ps : List Str} {k : Nat} {PF : XF} (F : Fun K x x st f fd) (S : FnScope N ps (defScope st)) (hm : mg x = some (.ref f)) (hb : Binds K fd ps []) (len : ∀ ts k, PF ts k → ts.length = ps.length)
    (hbody : ∀ (cdv : Value) (A : Around) (outer : List Env) (s : Shared) (H : Hp) (vs : List V) (E : XK), Room k (A.deeper (envOfC x (defScope st) s.heap.objs.size f cdv)) →
      ∃ t xs, PSB (cxOf CX0 P w K mg base N x (defScope st) f cdv A outer s H E).nox (defBody st) t xs ∧ ∀ ts k, PF ts k → xs (enP k) (stP N.length ts)) : Cal P w K mg base (k + 1) x ps (spP K PF) := by
  refine ⟨f, fd, F.ok S (fun vs H Q E h => ?_) (fun cdv A outer s H vs Q E hr h => ?_), hm, F.kp, hb⟩
  · obtain ⟨B, ts, k, _, d, hP, _⟩ := h
    rw [d.length]
    exact len ts k hP
  · obtain ⟨B, ts, kk, e, d, hP, q⟩ := h
    obtain ⟨t, xs, hx, hk⟩ := hbody cdv A outer s H vs E hr
    refine ⟨t, hx.ps, hx.sn ⟨K, B, H⟩ rfl _ _ (hk ts kk hP) B _ H (rl_start e d) _ ⟨fun B' st' σ' H' hn e1 r1 => ?_, fun B' v r st' σ' H' hn e1 r1 hv => ?_, fun B' st' σ' H' hn => hn.elim, fun B' st' σ' H' hn => hn.elim⟩⟩
    · exact q (.fr .non) B' .non H' hn ⟨e1, r1.fk, r1.bk, r1.nw⟩ .non
    · refine q r B' v H' hn ⟨e1, r1.fk, r1.bk, r1.nw⟩ ?_
      cases r with
      | fr t => exact hv
      | nw c =>
        obtain ⟨p, o, rfl, a, hp, ho⟩ := hv
        exact ⟨p, o, rfl, a.b, a.f, hp, ho⟩
theorem cal_T {x : Str} {st : Stmt} {f : Addr} {fd : FuncData} {N ps : List Str} {k : Nat} {PF : XFT} (F : Fun K x x st f fd) (S : FnScope N ps (defScope st)) (hm : mg x = some (.ref f)) (hb : Binds K fd ps []) (len : ∀ ts tp k, PF ts tp k → ts.length + 1 = ps.length)
    (hbody : ∀ (cdv : Value) (A : Around) (outer : List Env) (s : Shared) (H : Hp) (vs : List V) (E : XK), Room k (A.deeper (envOfC x (defScope st) s.heap.objs.size f cdv)) →
      ∃ t xs, PSB (cxOf CX0 P w K mg base N x (defScope st) f cdv A outer s H E).nox (defBody st) t xs ∧ ∀ a ts tp k, PF ts tp k → xs (enT a k) (stT N.length a tp ts)) : Cal P w K mg base (k + 1) x ps (spT K PF) := by
  refine ⟨f, fd, F.ok S (fun vs H Q E h => ?_) (fun cdv A outer s H vs Q E hr h => ?_), hm, F.kp, hb⟩
  · obtain ⟨B, a, tp, ts, vs', k, rfl, _, _, _, d, hP, _⟩ := h
    rw [List.length_cons, d.length]
    exact len ts tp k hP
  · obtain ⟨B, a, tp, ts, vs', kk, rfl, hB, e, ho, d, hP, q⟩ := h
    obtain ⟨t, xs, hx, hk⟩ := hbody cdv A outer s H (.ref a :: vs') E hr
    have fin : ∀ B' st' σ' H' tp', Ex B B' → Rl ⟨K, B, era H a⟩ B' st' σ' H' → st'.tp = some (a, tp') → StpT a B H B' H' ∧ ∃ o, H' a = some o ∧ Od K B' o (.lst tp') := fun B' st' σ' H' tp' e1 r1 ht => by
      obtain ⟨y1, y2, o, y3, y4⟩ := r1.tp a tp' ht
      refine ⟨⟨e1, fun b o hb q => r1.fk b o (show era H a b = some o by rw [era_ne hb]; exact q), r1.bk, fun b o qb => ?_⟩, o, y3, y4⟩
      rcases r1.nw b o qb with z | z
      · by_cases hb : b = a
        · subst hb
          rw [y1] at qb
          cases qb
        · have z' : era H a b = none := z
          rw [era_ne hb] at z'
          exact .inl z'
      · exact .inr z
    refine ⟨t, hx.ps, hx.sn ⟨K, B, era H a⟩ rfl _ _ (hk a ts tp kk hP) B _ H (rl_startT e d hB ho) _ ⟨fun B' st' σ' H' ⟨tp', ht, hn⟩ e1 r1 => ?_, fun B' v r st' σ' H' ⟨tp', ht, hn⟩ e1 r1 hv => ?_, fun B' st' σ' H' hn => hn.elim, fun B' st' σ' H' hn => hn.elim⟩⟩
    · obtain ⟨f1, f2⟩ := fin B' st' σ' H' tp' e1 r1 ht
      exact q (.fr .non) tp' B' .non H' hn f1 f2 .non
    · obtain ⟨f1, f2⟩ := fin B' st' σ' H' tp' e1 r1 ht
      refine q r tp' B' v H' hn f1 f2 ?_
      cases r with
      | fr t => exact hv
      | nw c =>
        obtain ⟨p, o, rfl, ap, hp, ho⟩ := hv
        have ne : p ≠ a := ap.t a tp' ht
        have z' : era H a p = none := ap.f
        rw [era_ne ne] at z'
        exact ⟨p, o, rfl, ap.b, z', hp, ho⟩
end
end TL

/-! enumerate of a tuple -/
namespace TL
open PySem PySem.Spec PyProof.Rows L2
set_option maxHeartbeats 1000000 in
theorem meets_enumerate_new1 {v : Value} {o : Obj} {H : Heap → Prop} (B : Begins v o H) :
    Meets (Builtin.«enumerate.__new__» ⟨[.type "enumerate", v], []⟩) (fun _ R s => H s.heap ∧
      R (.ok (.ret (.ref (s.heap.push o).objs.size))) { s with heap := (s.heap.push o).push { cls := .type "enumerate", data := .fields #[.none, .bool false, .ref s.heap.objs.size, rawInt 0, .none, .none] } }) :=
  .of_wp fun prog w A R s h => by
    obtain ⟨hp, g, d, tk, os⟩ := s; obtain ⟨h1, h⟩ := h
    have hsub := sub_enumerate
    have q1 : ∀ {A' : Around} {E : Value → Shared → Prop} {Q : Value → Shared → Prop}, Q (.ref hp.objs.size) ⟨hp.push o, g, d, tk, os⟩ → wpAny (model prog w) A' (pyIter v) Q E ⟨hp, g, d, tk, os⟩ :=
      fun q => B.iter prog w _ _ ⟨hp, g, d, tk, os⟩ _ h1 q
    wp_walk using q1
    refine wpAny_stack_any fun st => wpAny_pure ?_
    split
    · rename_i c _ _ _ _ _
      cases (c == Value.type "enumerate")
      · wp_walk using q1
        exact ⟨_, rfl, h⟩
      · wp_walk using q1
        exact ⟨_, rfl, h⟩
    · wp_walk using q1
      exact ⟨_, rfl, h⟩
section
variable {prog : Program} {w : World} {A : Around} {E : Value → Shared → Prop} {s : Shared}
theorem enum_begins1 {v : Value} {o : Obj} {H : Heap → Prop} {Q : Value → Shared → Prop} (B : Begins v o H) (h1 : H s.heap)
    (h : ∀ h', IsEnum h' (s.heap.objs.size + 1) s.heap.objs.size 0 .none → h'.get? s.heap.objs.size = some o → h'.objs.size = s.heap.objs.size + 2 →
      (∀ b o, s.heap.get? b = some o → h'.get? b = some o) → Q (.ref (s.heap.objs.size + 1)) { s with heap := h' }) :
    wpAny (model prog w) A (call (.type "enumerate") [v]) Q E s := by
  refine callType_new F.called_enumerate (by decide) (F.typeCall_enumerate_1 _) (F.newCall_enumerate_1 _) (fun obj => F.args_object_init_2 obj _) F.entry_enumerate_new
    (meets_enumerate_new1 B) ⟨h1, ?_⟩
  have hz : (s.heap.push o).objs.size = s.heap.objs.size + 1 := Heap.size_push ..
  show _ ∧ _
  rw [hz]
  have he : IsEnum ((s.heap.push o).push { cls := .type "enumerate", data := .fields #[.none, .bool false, .ref s.heap.objs.size, rawInt 0, .none, .none] }) (s.heap.objs.size + 1) s.heap.objs.size 0 .none := by
    have := Heap.get?_push_size (s.heap.push o) (o := { cls := .type "enumerate", data := .fields #[.none, .bool false, .ref s.heap.objs.size, rawInt 0, .none, .none] }) rfl
    rw [hz] at this; exact this
  refine ⟨⟨_, he, rfl⟩, h _ he (Heap.get?_push_of_some _ (Heap.get?_push_size _ B.free)) (by rw [Heap.size_push, hz]) fun b o x => Heap.get?_push_of_some _ (Heap.get?_push_of_some _ x)⟩
end
/-- the tuple at a, each item in a new pair -/
def IteT (K : PySem.W.Frag) (a : Addr) : It :=
  ⟨fun i H => ∃ (xs : List V) (x : V), SqT K H a xs ∧ xs[i]? = some x, fun i H v H' => ∃ T x, v = .ref T ∧ H T = none ∧ H' = upd H T (.tup [.int (i : Nat), x]) ∧ ∀ xs, SqT K H a xs → xs[i]? = some x, fun i H => ∃ xs : List V, SqT K H a xs ∧ xs.length ≤ i⟩
theorem turn_enumT {P : Program} {w : World} {K : PySem.W.Frag} {elts : List Expr} {kk : Nat} {tpos : Pos} (a e it : Addr) :
    Turn P w K (.Tuple elts kk tpos) (IteT K a) [e, it] e (fun i h => (∃ old, IsEnum h e it ((i : Nat) : Int) old) ∧ h.IsTupleIter it a i ∧ e ≠ it) where
  mem := by simp
  obj := fun i h st b hb => by
    obtain ⟨⟨old, he⟩, ⟨o, ho, hc, hd⟩, _⟩ := st
    have e' : b = e ∨ b = it := by simpa using hb
    rcases e' with z | z
    · rw [z]; exact ⟨_, he, fun v q => nomatch q⟩
    · rw [z]; exact ⟨o, ho, fun v q => by rw [hd] at q; cases q⟩
  keep := fun i h h' st k => let ⟨⟨old, he⟩, hi, hne⟩ := st; ⟨⟨old, k e (by simp) _ he⟩, hi.at fun o q => k it (by simp) o q, hne⟩
  item := by
    intro X hP hw hK hc i pins s σ H E I hf st hg
    subst hP hw hK
    obtain ⟨⟨old, he⟩, hit, hne⟩ := st
    obtain ⟨xs, x, hq, hx⟩ := hg
    obtain ⟨its, rv, p, hz⟩ := I.tuple hq
    obtain ⟨u, hu, ru⟩ := rv.get hx
    have hel : e < s.heap.objs.size := Heap.lt_size he
    have hil : it < s.heap.objs.size := by obtain ⟨_, q, _⟩ := hit; exact Heap.lt_size q
    have hai : a ≠ it := fun z => by
      obtain ⟨o, ho, hc, _⟩ := hit
      obtain ⟨o2, ho2, hc2, _⟩ := p
      rw [z, ho] at ho2
      cases ho2
      rw [hc] at hc2
      exact absurd hc2 (by decide)
    have hae : e ≠ a := fun z => by
      have he1 := he
      obtain ⟨o2, ho2, hc2, _⟩ := p
      unfold IsEnum at he1
      rw [z, ho2] at he1
      cases he1
      exact absurd (show Value.type "enumerate" = Value.type "tuple" from hc2) (by decide)
    have hlt : i < its.toArray.size := by
      have := (List.getElem?_eq_some_iff.mp hu).1
      simpa using this
    refine wpAny_pyNext_enum_itemD (Draws.tuple (A := X.A.in1) (I.ok.hd hc) it a hai its.toArray) he ⟨hit, p⟩ hlt hne (by simp [hne, hae]) fun x' h' tk hx' ho hit' hT hsz hk => ?_
    have ex : x' = u := by
      rw [List.getElem?_toArray, hu] at hx'
      cases hx'
      rfl
    subst ex
    refine ⟨_, rfl, wpAny_letOwnedTupleGo_enum (s := { s with heap := h', toks := tk + 1 }) ho fun h'' he' sb => ?_⟩
    have hT2 : h''.get? s.heap.objs.size = some { cls := .type "tuple", data := .seq #[.int i tk, x'] } := (sb.2 _ (Nat.ne_of_gt hel)).trans hT
    have new : ObjOk X.prog X.w (upd H s.heap.objs.size (.tup [.int (i : Nat), x])) h'' s.heap.objs.size (.tup [.int (i : Nat), x]) :=
      ⟨by show 2 ≤ sizeLine; decide, [.int i tk, x'], .cons ⟨_, rfl⟩ (.cons ru .nil), ⟨_, hT2, rfl, _, rfl⟩⟩
    have I1 : Inv X pins σ (upd H s.heap.objs.size (.tup [.int (i : Nat), x])) { s with heap := h'', toks := tk + 1 } :=
      I.turnedNew (ch := [e, it]) (fun b ob hb q => (sb.2 b (fun z => hb (by simp [z]))).trans (hk b ob (fun z => hb (by simp [z])) (fun z => hb (by simp [z])) q)) hf (Nat.le_refl _) new
    refine ⟨.ref s.heap.objs.size, _, I1, rfl, ⟨_, x, rfl, I.hok.fresh (Nat.le_refl _), rfl, fun ys hy => by rw [I.tuple_inj hy hq]; exact hx⟩, ⟨⟨x', ?_⟩, hit'.1.at fun o q => (sb.2 it (Ne.symm hne)).trans q, hne⟩, fun b hb => ?_⟩
    · have e1 : ((i + 1 : Nat) : Int) = (i : Int) + 1 := by omega
      rw [e1]; exact he'
    · have hb' : b < s.heap.objs.size := by
        have e' : b = e ∨ b = it := by simpa using hb
        rcases e' with z | z
        · rw [z]; exact hel
        · rw [z]; exact hil
      rw [upd_ne (Nat.ne_of_lt hb')]
      exact (hf b hb).1
  done := by
    intro X hP hw hK hc i pins s σ H E I hf st hg
    subst hP hw hK
    obtain ⟨⟨old, he⟩, hit, hne⟩ := st
    obtain ⟨xs, hq, hx⟩ := hg
    obtain ⟨its, rv, p, hz⟩ := I.tuple hq
    obtain ⟨f0, f1, f2, f3, f4, f5⟩ := hf it (by simp)
    have hl := rv.length
    have hai : a ≠ it := fun z => by
      obtain ⟨o, ho, hc, _⟩ := hit
      obtain ⟨o2, ho2, hc2, _⟩ := p
      rw [z, ho] at ho2
      cases ho2
      rw [hc] at hc2
      exact absurd hc2 (by decide)
    have hT : s.TypeIs (.ref e) "enumerate" := ⟨_, he, rfl⟩
    unfold pyNext
    refine wpAny_bind (wpAny_attempt (wpAny_callSpecial?_slot (name := Str.ofString "__next__") hT F.slot_enumerate_next
      (wpAny_call_entry F.slot_enumerate_next hT F.entry_enumerate_next ?_ (F.args_enumerate_next_1 _))))
    show wpAny _ _ (field (.ref e) 2 >>= _) _ _ _
    refine wpAny_bind (wpAny_field he rfl (x := .ref it) rfl ?_)
    refine wpAny_bind (wpAny_nextOf_tuple_end (I.ok.hd hc) hit p (by simp; omega) fun h' x he' hx' => ?_)
    obtain ⟨o, ho, hc⟩ := hx'
    refine wpAny_bind (wpAny_isInstance (T := "StopIteration") (b := true) ⟨o, ho, hc⟩ isSubtype_stop ?_)
    exact wpAny_pure ⟨rfl, I.turned (t' := s.toks) (fun b o hb q => he' b o hb q) f0 f1 f3 f4 f5⟩
  self := fun A i s Q E st h => let ⟨⟨_, he⟩, _⟩ := st; wpAny_pyIter_enum he h
def iEnumT (K : PySem.W.Frag) (ta : TA) : TI := fun σ H R => ta σ H fun vs H1 => ∃ a xs, vs = [.ref a] ∧ SqT K H1 a xs ∧ R (IteT K a) H1
theorem pi_enumT {X : Cx} {e : Expr} {ta : TA} {p pos tpos : Pos} {elts : List Expr} {kk : Nat} (hg : Gl X "enumerate") (hm : X.mg "enumerate" = none) (ha : PA X [e] ta) (hs : starEach [e] X.env = [(false, eval e X.env)] := by rfl) :
    PI X (.Tuple elts kk tpos) (.Call (.Name "enumerate" p) [e] [] pos) (iEnumT X.K ta) := by
  refine ⟨fun pins s σ H R I h => ?_⟩
  refine Call_ (ld_blt I hg hm boot_enumerate (PyProof.Rows.callWith_type1 (thn (ha.run pos pins s σ H _ I h) fun us s1 ⟨vs, H1, I1, r1, q1⟩ => ?_) hs rfl))
  obtain ⟨a, xs, ex, hq, q⟩ := q1
  subst ex
  cases r1 with
  | cons r rr =>
    cases rr
    cases r
    obtain ⟨its, rv, p', hz⟩ := I1.tuple hq
    refine enum_begins1 (begins_tuple a its.toArray) p' fun h' he hit hsz hk => wpAny_pyIter_enum he ?_
    have I2 : Inv X pins σ H1 { s1 with heap := h' } := I1.kept (t' := s1.toks) hk
    refine ⟨s1.heap.objs.size + 1, [s1.heap.objs.size + 1, s1.heap.objs.size], _, _, H1, rfl, I2, turn_enumT a (s1.heap.objs.size + 1) s1.heap.objs.size, ⟨⟨.none, he⟩, ⟨_, hit, rfl, rfl⟩, Nat.succ_ne_self _⟩, fun b hb => ?_, q⟩
    have e' : b = s1.heap.objs.size + 1 ∨ b = s1.heap.objs.size := by simpa using hb
    have hle : s1.heap.objs.size ≤ b := by
      rcases e' with z | z
      · rw [z]; exact Nat.le_add_right _ _
      · rw [z]; exact Nat.le_refl _
    exact I1.fpOk hle (I1.hok.fresh hle)
end TL

namespace TL
open PySem PySem.Spec PyProof.Rows L2

/-! ### what is walked -/
/-- an iterator that yields the trees ts, as long as what is known stays -/
structure ItOk (Z : Zone) (B : Hp) (J : It) (ts : List T) : Prop where
  go : ∀ B' i H, Ex B B' → Ex B' H → i < ts.length → J.go i H
  yld : ∀ B' i t v H H', Ex B B' → Ex B' H → ts[i]? = some t → J.yld i H v H' → ∃ B'', Stp B' H B'' H' ∧ Dn Z.K B'' v t
  stop : ∀ B' H, Ex B B' → Ex B' H → J.stop ts.length H
abbrev XI := S → (List T → S → Prop) → Prop
def SndI (Z : Zone) (wi : TI) (xi : XI) : Prop := ∀ st k, xi st k → ∀ B σ H, Rl Z B st σ H → ∀ R : It → Hp → Prop, (∀ B' J ts st' H', k ts st' → Ex B B' → Rl Z B' st' σ H' → ItOk Z B' J ts → R J H') → wi σ H R
structure PIX (X : Cx) (tg iter : Expr) (wi : TI) (xi : XI) : Prop where
  pi : PI X tg iter wi
  sn : ∀ Z : Zone, Z.K = X.K → SndI Z wi xi
def iOr (w1 w2 : TI) : TI := fun σ H R => w1 σ H R ∨ w2 σ H R
theorem pi_or {X : Cx} {tg l : Expr} {w1 w2 : TI} (h1 : PI X tg l w1) (h2 : PI X tg l w2) : PI X tg l (iOr w1 w2) :=
  ⟨fun pins s σ H R I h => h.elim (fun q => h1.run pins s σ H R I q) (fun q => h2.run pins s σ H R I q)⟩
section
variable {Z : Zone} {B : Hp} {a b : Addr} {vs ws : List V} {ts us : List T}
theorem Dns.getE (h : Dns Z.K B vs ts) {i : Nat} {v : V} {t : T} (e : vs[i]? = some v) (q : ts[i]? = some t) : Dn Z.K B v t := by
  obtain ⟨v', h1, h2⟩ := h.get q
  rw [e] at h1
  cases h1
  exact h2
theorem lt_get (h : Dns Z.K B vs ts) {i : Nat} (hi : i < ts.length) : ∃ v, vs[i]? = some v := by
  obtain ⟨v, h1, _⟩ := h.get (List.getElem?_eq_getElem hi)
  exact ⟨v, h1⟩
theorem it_list (h : SqL Z.K B a vs) (d : Dns Z.K B vs ts) : ItOk Z B (Itl Z.K a) ts where
  go := fun B' i H e1 e2 hi => by
    obtain ⟨v, hv⟩ := lt_get d hi
    exact ⟨vs, v, e2.sl (e1.sl h), hv⟩
  yld := fun B' i t v H H' e1 e2 ht y => by
    obtain ⟨rfl, y⟩ := y
    exact ⟨B', Stp.refl e2, (d.getE (y vs (e2.sl (e1.sl h))) ht).mono e1⟩
  stop := fun B' H e1 e2 => ⟨vs, e2.sl (e1.sl h), by rw [d.length]; exact Nat.le_refl _⟩
theorem it_tup (h : SqT Z.K B a vs) (d : Dns Z.K B vs ts) : ItOk Z B (Itt Z.K a) ts where
  go := fun B' i H e1 e2 hi => by
    obtain ⟨v, hv⟩ := lt_get d hi
    exact ⟨vs, v, e2.st (e1.st h), hv⟩
  yld := fun B' i t v H H' e1 e2 ht y => by
    obtain ⟨rfl, y⟩ := y
    exact ⟨B', Stp.refl e2, (d.getE (y vs (e2.st (e1.st h))) ht).mono e1⟩
  stop := fun B' H e1 e2 => ⟨vs, e2.st (e1.st h), by rw [d.length]; exact Nat.le_refl _⟩
theorem it_range (lo : Int) (n : Nat) : ItOk Z B (Itr lo n) ((List.range n).map fun i => T.int (lo + (i : Nat))) where
  go := fun B' i H e1 e2 hi => by
    rw [List.length_map, List.length_range] at hi
    exact hi
  yld := fun B' i t v H H' e1 e2 ht y => by
    obtain ⟨rfl, rfl⟩ := y
    rw [List.getElem?_map] at ht
    by_cases hi : i < n
    · rw [List.getElem?_range hi] at ht
      cases ht
      exact ⟨B', Stp.refl e2, .int _⟩
    · rw [List.getElem?_eq_none (by rw [List.length_range]; omega)] at ht
      cases ht
  stop := fun B' H e1 e2 => by
    rw [List.length_map, List.length_range]
    exact Nat.le_refl n
/-- the items with their places -/
def enumT : Nat → List T → List T
  | _, [] => []
  | i, t :: ts => .tup [.int (i : Nat), t] :: enumT (i + 1) ts
theorem enumT_len : ∀ (i : Nat) (ts : List T), (enumT i ts).length = ts.length
  | _, [] => rfl
  | i, t :: ts => congrArg (· + 1) (enumT_len (i + 1) ts)
theorem enumT_get : ∀ (j : Nat) (ts : List T) (i : Nat), (enumT j ts)[i]? = (ts[i]?).map fun t => T.tup [.int ((j + i : Nat) : Int), t]
  | _, [], i => by simp [enumT]
  | j, t :: ts, 0 => by simp [enumT]
  | j, t :: ts, i + 1 => by
    have := enumT_get (j + 1) ts i
    rw [show j + 1 + i = j + (i + 1) by omega] at this
    simpa [enumT] using this
theorem it_enumT (h : SqT Z.K B a vs) (d : Dns Z.K B vs ts) : ItOk Z B (IteT Z.K a) (enumT 0 ts) where
  go := fun B' i H e1 e2 hi => by
    rw [enumT_len] at hi
    obtain ⟨v, hv⟩ := lt_get d hi
    exact ⟨vs, v, e2.st (e1.st h), hv⟩
  yld := fun B' i t v H H' e1 e2 ht y => by
    obtain ⟨p, x, rfl, hp, rfl, y⟩ := y
    have hv := y vs (e2.st (e1.st h))
    rw [enumT_get] at ht
    cases q : ts[i]? with
    | none => rw [q] at ht; cases ht
    | some u =>
      rw [q] at ht
      have z : T.tup [.int ((0 + i : Nat) : Int), u] = t := Option.some.inj ht
      rw [Nat.zero_add] at z
      subst z
      have s := Stp.new (o := .tup [.int (i : Nat), x]) e2 hp
      exact ⟨_, s, .tup upd_same (.cons (.int _) (.cons (((d.getE hv q).mono e1).mono s.bb) .nil))⟩
  stop := fun B' H e1 e2 => ⟨vs, e2.st (e1.st h), by rw [enumT_len, d.length]; exact Nat.le_refl _⟩
def zipT : List T → List T → List T
  | a :: as, b :: bs => .tup [a, b] :: zipT as bs
  | _, _ => []
theorem zipT_len : ∀ (as bs : List T), (zipT as bs).length = min as.length bs.length
  | [], _ => by simp [zipT]
  | _ :: _, [] => by simp [zipT]
  | _ :: as, _ :: bs => by simp [zipT, zipT_len as bs]
theorem zipT_get : ∀ (as bs : List T) (i : Nat) (t : T), (zipT as bs)[i]? = some t → ∃ x y, as[i]? = some x ∧ bs[i]? = some y ∧ t = .tup [x, y]
  | [], _, i, t, h => by simp [zipT] at h
  | _ :: _, [], i, t, h => by simp [zipT] at h
  | x :: as, y :: bs, 0, t, h => by
    simp [zipT] at h
    exact ⟨x, y, rfl, rfl, h.symm⟩
  | x :: as, y :: bs, i + 1, t, h => zipT_get as bs i t (by simpa [zipT] using h)
theorem it_zipT (h : SqT Z.K B a vs) (d : Dns Z.K B vs ts) (h2 : SqT Z.K B b ws) (d2 : Dns Z.K B ws us) : ItOk Z B (RZ.ItzT Z.K a b) (zipT ts us) where
  go := fun B' i H e1 e2 hi => by
    rw [zipT_len] at hi
    obtain ⟨v, hv⟩ := lt_get d (i := i) (by omega)
    obtain ⟨w, hw⟩ := lt_get d2 (i := i) (by omega)
    exact ⟨vs, ws, v, w, e2.st (e1.st h), e2.st (e1.st h2), hv, hw⟩
  yld := fun B' i t v H H' e1 e2 ht y => by
    obtain ⟨p, x, y', rfl, hp, rfl, y1, y2⟩ := y
    obtain ⟨t1, t2, q1, q2, rfl⟩ := zipT_get ts us i t ht
    have s := Stp.new (o := .tup [x, y']) e2 hp
    exact ⟨_, s, .tup upd_same (.cons (((d.getE (y1 vs (e2.st (e1.st h))) q1).mono e1).mono s.bb) (.cons (((d2.getE (y2 ws (e2.st (e1.st h2))) q2).mono e1).mono s.bb) .nil))⟩
  stop := fun B' H e1 e2 => ⟨vs, ws, e2.st (e1.st h), e2.st (e1.st h2), by rw [zipT_len, d.length, d2.length]; omega⟩
end
def iSeq (K : PySem.W.Frag) (tl : TE) : TI := fun σ H R => tl σ H fun x H1 => ∃ a, x = .ref a ∧ (((∃ xs, SqL K H1 a xs) ∧ R (Itl K a) H1) ∨ ((∃ xs, SqT K H1 a xs) ∧ R (Itt K a) H1))
theorem pi_seq {X : Cx} {tg l : Expr} {tl : TE} (hl : PE X l tl) : PI X tg l (iSeq X.K tl) := by
  refine ⟨fun pins s σ H R I h => ?_⟩
  refine thn (hl.run pins s σ H _ I h) fun v s1 ⟨x, H1, I1, r1, q1⟩ => ?_
  obtain ⟨a, e, q⟩ := q1
  subst e
  cases r1
  rcases q with ⟨⟨xs, hq⟩, q⟩ | ⟨⟨xs, hq⟩, q⟩
  · obtain ⟨its, rv, p, hz⟩ := I1.list hq
    refine wpAny_pyIter_list p.isList ?_
    refine ⟨s1.heap.objs.size, [s1.heap.objs.size], _, _, H1, rfl, I1.kept (t' := s1.toks) fun b o e => Heap.get?_push_of_some _ e, turn_list a _, ⟨_, Heap.get?_push_size _ rfl, rfl, rfl⟩, fun b hb => ?_, q⟩
    have e : b = s1.heap.objs.size := by simpa using hb
    subst e
    exact I1.fpOk (Nat.le_refl _) (I1.hok.fresh (Nat.le_refl _))
  · obtain ⟨its, rv, p, hz⟩ := I1.tuple hq
    refine wpAny_pyIter_tuple (show s1.heap.IsTuple a its.toArray from p) ?_
    refine ⟨s1.heap.objs.size, [s1.heap.objs.size], _, _, H1, rfl, I1.kept (t' := s1.toks) fun b o e => Heap.get?_push_of_some _ e, turn_tuple a _, ⟨_, Heap.get?_push_size _ rfl, rfl, rfl⟩, fun b hb => ?_, q⟩
    have e : b = s1.heap.objs.size := by simpa using hb
    subst e
    exact I1.fpOk (Nat.le_refl _) (I1.hok.fresh (Nat.le_refl _))
def xiL (x : XE) : XI := fun st k => x st fun t s1 => ∃ ts, (t = .lst ts ∨ t = .tup ts ∨ t = .scr ts) ∧ k ts s1
def xiR1 (xs : XA) : XI := fun st k => xs st fun ts s1 => ∃ j, ts = [.int j] ∧ (-(2 ^ 62) ≤ j ∧ j < 2 ^ 62) ∧ k (rgT 0 j) s1
def xiR2 (xs : XA) : XI := fun st k => xs st fun ts s1 => ∃ i j, ts = [.int i, .int j] ∧ (-(2 ^ 62) ≤ i ∧ i < 2 ^ 62 ∧ -(2 ^ 62) ≤ j ∧ j < 2 ^ 62) ∧ k (rgT i j) s1
def xiE (xs : XA) : XI := fun st k => xs st fun us s1 => ∃ ts, us = [.tup ts] ∧ k (enumT 0 ts) s1
def xiZ (xs : XA) : XI := fun st k => xs st fun vs s1 => ∃ ts us, vs = [.tup ts, .tup us] ∧ k (zipT ts us) s1
section
variable {X : Cx} {a b e : Expr} {ta tb te : TE} {xa xb x : XE} {tA : TA} {xs : XA} {pos p tpos : Pos} {tg : Expr} {elts : List Expr} {kk : Nat}
theorem pix_seq (h : PX X e te x) : PIX X tg e (iSeq X.K te) (xiL x) := ⟨pi_seq h.pe, fun Z z st k hk B σ H r R q => by
  rw [← z]
  refine h.sn Z z st _ hk B σ H r _ fun B1 v t s1 H1 ⟨ts, ht, h1⟩ r1 e1 d1 => ?_
  rcases ht with rfl | rfl | rfl
  · cases d1 with
    | lst hl s => exact ⟨_, rfl, .inl ⟨⟨_, SqL.of (r1.bk _ _ hl)⟩, q B1 _ _ s1 H1 h1 e1 r1 (it_list (SqL.of hl) s)⟩⟩
  · cases d1 with
    | tup hl s => exact ⟨_, rfl, .inr ⟨⟨_, SqT.of (r1.bk _ _ hl)⟩, q B1 _ _ s1 H1 h1 e1 r1 (it_tup (SqT.of hl) s)⟩⟩
  · cases d1 with
    | scr hl s => exact ⟨_, rfl, .inl ⟨⟨_, r1.bk.sl hl⟩, q B1 _ _ s1 H1 h1 e1 r1 (it_list hl s)⟩⟩⟩
theorem rg_eq (i j : Int) : rgT i j = (List.range (j - i).toNat).map fun n => T.int (i + (n : Nat)) := rfl
theorem pix_range1 (hg : Gl X "range") (hm : X.mg "range" = none) (ha : PAX X [a] tA xs) (hs : starEach [a] X.env = [(false, eval a X.env)] := by rfl) : PIX X tg (.Call (.Name "range" p) [a] [] pos) (iRng1 tA) (xiR1 xs) :=
  ⟨pi_range1 hg hm ha.pa hs, fun Z z st k hk B σ H r R q => ha.sn Z z st _ hk B σ H r _ fun B1 vs ts s1 H1 ⟨j, ht, ⟨b1, b2⟩, h1⟩ r1 e1 d1 => by
    subst ht
    cases d1 with
    | cons d d' =>
      cases d'
      cases d
      refine ⟨j, rfl, b1, b2, q B1 _ _ s1 H1 h1 e1 r1 ?_⟩
      have := it_range (Z := Z) (B := B1) 0 j.toNat
      rw [rg_eq, Int.sub_zero]
      exact this⟩
theorem pix_range2 (hg : Gl X "range") (hm : X.mg "range" = none) (ha : PAX X [a, b] tA xs) (hs : starEach [a, b] X.env = [(false, eval a X.env), (false, eval b X.env)] := by rfl) (hs2 : starEach [b] X.env = [(false, eval b X.env)] := by rfl) : PIX X tg (.Call (.Name "range" p) [a, b] [] pos) (iRng2 tA) (xiR2 xs) :=
  ⟨pi_range2 hg hm ha.pa hs hs2, fun Z z st k hk B σ H r R q => ha.sn Z z st _ hk B σ H r _ fun B1 vs ts s1 H1 ⟨i, j, ht, b, h1⟩ r1 e1 d1 => by
    subst ht
    cases d1 with
    | cons d d' =>
      cases d' with
      | cons d2 d'' =>
        cases d''
        cases d
        cases d2
        exact ⟨i, j, rfl, b, q B1 _ _ s1 H1 h1 e1 r1 (it_range i (j - i).toNat)⟩⟩
theorem pix_enum (hg : Gl X "enumerate") (hm : X.mg "enumerate" = none) (ha : PAX X [e] tA xs) (hs : starEach [e] X.env = [(false, eval e X.env)] := by rfl) : PIX X (.Tuple elts kk tpos) (.Call (.Name "enumerate" p) [e] [] pos) (iEnumT X.K tA) (xiE xs) :=
  ⟨pi_enumT hg hm ha.pa hs, fun Z z st k hk B σ H r R q => ha.sn Z z st _ hk B σ H r _ fun B1 vs us s1 H1 ⟨ts, ht, h1⟩ r1 e1 d1 => by
    subst ht
    rw [← z]
    cases d1 with
    | cons d d' =>
      cases d'
      cases d with
      | tup hl s => exact ⟨_, _, rfl, SqT.of (r1.bk _ _ hl), q B1 _ _ s1 H1 h1 e1 r1 (it_enumT (SqT.of hl) s)⟩⟩
theorem pix_zip {e2 : Expr} (hg : Gl X "zip") (hm : X.mg "zip" = none) (ha : PAX X [e, e2] tA xs) (hp : PI X (.Tuple elts kk tpos) (.Call (.Name "zip" p) [e, e2] [] pos) (RZ.iZipA X.K tA)) : PIX X (.Tuple elts kk tpos) (.Call (.Name "zip" p) [e, e2] [] pos) (RZ.iZipA X.K tA) (xiZ xs) :=
  ⟨hp, fun Z z st k hk B σ H r R q => ha.sn Z z st _ hk B σ H r _ fun B1 vs us s1 H1 ⟨ts, ws, ht, h1⟩ r1 e1 d1 => by
    subst ht
    rw [← z]
    cases d1 with
    | cons d d' =>
      cases d' with
      | cons d2 d'' =>
        cases d''
        cases d with
        | tup hl s =>
          cases d2 with
          | tup hl2 s2 => exact ⟨_, _, _, _, rfl, .inr ⟨SqT.of (r1.bk _ _ hl), SqT.of (r1.bk _ _ hl2), q B1 _ _ s1 H1 h1 e1 r1 (it_zipT (SqT.of hl) s (SqT.of hl2) s2)⟩⟩⟩
end
/-! ### targets -/
abbrev XG := T → S → (S → Prop) → Prop
def SndG (Z : Zone) (g : TG) (xg : XG) : Prop := ∀ t s k, xg t s k → ∀ B v σ H, Rl Z B s σ H → Dn Z.K B v t → ∀ Q : L2.St → Hp → Prop, (∀ s' σ', k s' → Rl Z B s' σ' H → Q σ' H) → g v σ H Q
structure PGX (X : Cx) (tg : Expr) (g : TG) (xg : XG) : Prop where
  pg : PG X tg g
  sn : ∀ Z : Zone, Z.K = X.K → SndG Z g xg
def xgN (i : Nat) : XG := fun t s k => i < s.ds.length ∧ k (s.put i (.fr t))
def xg2 (i j : Nat) : XG := fun t s k => ∃ a b, t = .tup [a, b] ∧ i < s.ds.length ∧ j < s.ds.length ∧ k ((s.put i (.fr a)).put j (.fr b))
section
variable {X : Cx} {pos p1 p2 : Pos} {n m : Str} {i j : Nat}
theorem pgx_name (hN : X.N.Nodup) (hi : X.N[i]? = some n) (hx : Loc X.env.scope n) (hf : X.fn n = true ∨ X.env.scope.names.lookup n = some .local := by first | exact .inl rfl | exact .inr rfl | assumption) : PGX X (.Name n pos) (gName i) (xgN i) :=
  ⟨pg_name hN hi hx hf, fun Z z t s k ⟨hl, hk⟩ B v σ H r d Q q => q _ _ hk (r.put hl d)⟩
theorem pgx_two {kk : Nat} (hc : X.calm = true) (h1 : PG X (.Name n p1) (gName i)) (h2 : PG X (.Name m p2) (gName j)) (hn : (assignEach [.Name n p1, .Name m p2] X.env).length = 2 := by rfl) (hst : (assignEach [.Name n p1, .Name m p2] X.env).findIdx? (·.1) = none := by rfl)
    (hp : PGs X [.Name n p1, .Name m p2] (gCons (gName i) (gCons (gName j) gNil))) : PGX X (.Tuple [.Name n p1, .Name m p2] kk pos) (gTup X.K 2 (gCons (gName i) (gCons (gName j) gNil))) (xg2 i j) :=
  ⟨pg_tup hc hp hn hst, fun Z z t s k ⟨a, b, ht, hi, hj, hk⟩ B v σ H r d Q q => by
    subst ht
    rw [← z]
    cases d with
    | tup hl ds =>
      cases ds with
      | cons d1 ds =>
        cases ds with
        | cons d2 ds =>
          cases ds
          refine ⟨_, _, rfl, SqT.of (r.bk _ _ hl), rfl, _, _, rfl, _, _, rfl, rfl, q _ _ hk ((r.put hi d1).put (by
            show j < (s.ds.set i _).length
            rw [List.length_set]
            exact hj) d2)⟩⟩
end
/-! ### for -/
def xFor (xi : XI) (xg : XG) (xb : XS) : XS := fun D st => xi st fun ts s1 => ∃ W : Nat → S → Prop, W 0 s1 ∧
  (∀ n x s, ts[n]? = some x → W n s → xg x s fun s' => xb { D with nx := W (n + 1), ct := W (n + 1), bk := D.nx } s') ∧ ∀ s, W ts.length s → D.nx s
section
variable {X : Cx} {tg iter : Expr} {body : List Stmt} {wi : TI} {xi : XI} {g : TG} {xg : XG} {tb : TS} {xb : XS} {pos : Pos} {i : Nat} {n : Str} {e : Expr} {te : TE} {xe : XE}
theorem snd_for {Z : Zone} (hi : SndI Z wi xi) (hg : SndG Z g xg) (hb : SndS Z tb xb) : SndS Z (tFor wi g tb) (xFor xi xg xb) := fun D st h B σ H r D' d =>
  hi st _ h B σ H r _ fun B1 J ts s1 H1 ⟨W, w0, ws, wd⟩ e1 r1 ok =>
    ⟨fun i m σ' H' => m = ts.length - i ∧ i ≤ ts.length ∧ ∃ B' s, Ex B1 B' ∧ Rl Z B' s σ' H' ∧ W i s, ⟨ts.length, (by simp), Nat.zero_le _, B1, s1, Ex.refl B1, r1, w0⟩, fun i m σ' H' ⟨hm, hle, B', s, e2, r2, w⟩ => by
      by_cases hlt : i < ts.length
      · refine .inr ⟨ok.go B' i H' e2 r2.bk hlt, fun σ2 H2 => ∃ B' s, Ex B1 B' ∧ Rl Z B' s σ2 H2 ∧ W (i + 1) s, fun σ2 H2 ⟨B2, s2, e3, r3, w3⟩ => ⟨ts.length - (i + 1), by omega, rfl, hlt, B2, s2, e3, r3, w3⟩, fun v H2 y => ?_⟩
        obtain ⟨B2, st2, dv⟩ := ok.yld B' i _ v H' H2 e2 r2.bk (List.getElem?_eq_getElem hlt) y
        refine hg _ s _ (ws i _ s (List.getElem?_eq_getElem hlt) w) B2 v σ' H2 (r2.stp st2) dv _ fun s3 σ3 hk r3 => ?_
        exact hb _ s3 hk B2 σ3 H2 r3 _ ⟨fun B4 s4 σ4 H4 hn e4 r4 => ⟨B4, s4, (e2.trans st2.bb).trans e4, r4, hn⟩, fun B4 v4 r4 s4 σ4 H4 hr e4 q4 => d.rt B4 v4 r4 s4 σ4 H4 hr (((e1.trans e2).trans st2.bb).trans e4) q4,
          fun B4 s4 σ4 H4 hn e4 r4 => d.nx B4 s4 σ4 H4 hn (((e1.trans e2).trans st2.bb).trans e4) r4, fun B4 s4 σ4 H4 hn e4 r4 => ⟨B4, s4, (e2.trans st2.bb).trans e4, r4, hn⟩⟩
      · have e : i = ts.length := by omega
        subst e
        exact .inl ⟨ok.stop B' H' e2 r2.bk, d.nx B' s σ' H' (wd s w) (e1.trans e2) r2⟩⟩
theorem sx_for (hp : PassesOwn (model X.prog X.w) X.A X.env X.xe) (hc : X.calm = true) (hi : PIX X tg iter wi xi) (hg : PGX X tg g xg) (hb : PSB X body tb xb) (hs : ∀ x, foldedSetIterable iter X.env x = pure x := by intro _; rfl) : PSX X (.For tg iter body [] pos) (tFor wi g tb) (xFor xi xg xb) :=
  ⟨ps_for hp hc hi.pi hg.pg hb.ps hs, fun Z z => snd_for (hi.sn Z z) (hg.sn Z z) (hb.sn Z z)⟩
/-- a, b = e -/
def xUnp (x : XE) (xg : XG) : XS := fun D st => x st fun t s1 => xg t s1 D.nx
theorem sx_unp (he : PX X e te xe) (hg : PGX X tg g xg) (hs : swapsWithSole [tg] e pos.line X.env = pure false := by rfl) (hw : swappedStores [tg] e X.env = pure none := by rfl) (h1 : List.map (fun x => x.snd) (assignEach [tg] X.env) = [assign tg X.env] := by rfl) : PSX X (.Assign [tg] e pos) (tAsg te g) (xUnp xe xg) :=
  ⟨ps_asg he.pe hg.pg hs hw h1, fun Z z D st h B σ H r D' d => he.sn Z z st _ h B σ H r _ fun B1 v t s1 H1 h1 r1 e1 dv => hg.sn Z z t s1 _ h1 B1 v σ H1 r1 dv _ fun s' σ' hk r' => d.nx B1 s' σ' H1 hk e1 r'⟩
end
end TL

namespace TL
open PySem PySem.Spec PyProof.Rows L2

section
variable {Z : Zone} {B B' : Hp} {st st' : S} {σ σ' : L2.St} {H H' : Hp} {p : Addr} {o : HO}
/-- a thing apart, kept through what follows -/
theorem Rl.pin (r : Rl Z B st σ H) (a : Apt Z B st σ p) (hp : H p = some o) : Rl ⟨Z.K, B, upd Z.F p o⟩ B st σ H where
  fk := fun b u q => by
    have q' : upd Z.F p o b = some u := q
    by_cases z : b = p
    · subst z
      rw [upd_same] at q'
      cases q'
      exact hp
    · rw [upd_ne z] at q'
      exact r.fk b u q'
  bk := r.bk
  b0 := Ex.refl B
  nw := fun b u q => .inr q
  len := r.len
  fr := r.fr
  ow := fun i c q => by
    obtain ⟨b, u, h1, h2, h3, h4, h5, h6⟩ := r.ow i c q
    have ne : b ≠ p := fun z => by
      subst z
      exact a.o i c q h1
    exact ⟨b, u, h1, h2, h3, h4, (show upd Z.F p o b = none by rw [upd_ne ne]; exact h5), h6⟩
  di := r.di
  tp := fun b t q => by
    obtain ⟨h1, h2, u, h3, h4⟩ := r.tp b t q
    have ne : b ≠ p := fun z => a.t b t q z.symm
    exact ⟨h1, (show upd Z.F p o b = none by rw [upd_ne ne]; exact h2), u, h3, h4⟩
theorem Rl.unpin (r0 : Rl Z B st σ H) (a : Apt Z B st σ p) (r : Rl ⟨Z.K, B, upd Z.F p o⟩ B' st' σ' H') : Rl Z B' st' σ' H' ∧ H' p = some o ∧ Apt Z B' st' σ' p := by
  have up : ∀ b, upd Z.F p o b = none → b ≠ p ∧ Z.F b = none := fun b q => by
    by_cases z : b = p
    · subst z
      rw [upd_same] at q
      cases q
    · rw [upd_ne z] at q
      exact ⟨z, q⟩
  have hB : B' p = none := by
    cases q : B' p with
    | none => rfl
    | some u =>
      rcases r.nw p u q with z | z
      · exact absurd rfl (up p z).1
      · have z' : B p = some u := z
        rw [a.b] at z'
        cases z'
  refine ⟨⟨fun b u q => ?_, r.bk, r0.b0.trans r.b0, fun b u q => ?_, r.len, r.fr, fun i c q => ?_, r.di, fun b t q => ?_⟩, r.fk p o upd_same, hB, a.f, fun i c q w => ?_, fun b t q z => ?_⟩
  · have ne : b ≠ p := fun z => by
      subst z
      rw [a.f] at q
      cases q
    exact r.fk b u (show upd Z.F p o b = some u by rw [upd_ne ne]; exact q)
  · rcases r.nw b u q with z | z
    · exact .inl (up b z).2
    · exact r0.nw b u z
  · obtain ⟨b, u, h1, h2, h3, h4, h5, h6⟩ := r.ow i c q
    exact ⟨b, u, h1, h2, h3, h4, (up b h5).2, h6⟩
  · obtain ⟨h1, h2, u, h3, h4⟩ := r.tp b t q
    exact ⟨h1, (up b h2).2, u, h3, h4⟩
  · obtain ⟨b, u, h1, h2, h3, h4, h5, h6⟩ := r.ow i c q
    rw [w] at h1
    cases h1
    exact (up p h5).1 rfl
  · obtain ⟨h1, h2, u, h3, h4⟩ := r.tp b t q
    exact (up b h2).1 z.symm
theorem Rl.writeA (r : Rl Z B st σ H) (a : Apt Z B st σ p) : Rl Z B st σ (upd H p o) where
  fk := fun b u q => by
    rw [upd_ne (ne_of_none q a.f)]
    exact r.fk b u q
  bk := fun b u q => by
    rw [upd_ne (ne_of_none q a.b)]
    exact r.bk b u q
  b0 := r.b0
  nw := r.nw
  len := r.len
  fr := r.fr
  ow := fun i c q => by
    obtain ⟨b, u, h1, h2, h3, h4, h5, h6⟩ := r.ow i c q
    have ne : b ≠ p := fun z => by
      subst z
      exact a.o i c q h1
    exact ⟨b, u, h1, (by rw [upd_ne ne]; exact h2), h3, h4, h5, h6⟩
  di := r.di
  tp := fun b t q => by
    obtain ⟨h1, h2, u, h3, h4⟩ := r.tp b t q
    have ne : b ≠ p := fun z => a.t b t q z.symm
    exact ⟨h1, h2, u, (by rw [upd_ne ne]; exact h3), h4⟩
/-- a slot is as it was -/
theorem Rl.unput {i : Nat} {x : T} {v : V} (r : Rl Z B st σ H) (e : Ex B B') (no : ∀ c, st.ds[i]? ≠ some (Slot.ow c)) (r' : Rl Z B' (st.put i (.fr x)) (σ.set i (some v)) H') : Rl Z B' st σ H' where
  fk := r'.fk
  bk := r'.bk
  b0 := r'.b0
  nw := r'.nw
  len := r.len
  fr := fun j t q => by
    by_cases hj : i = j
    · subst hj
      obtain ⟨w, h1, h2⟩ := r.fr i t q
      exact ⟨w, h1, h2.mono e⟩
    · obtain ⟨w, h1, h2⟩ := r'.fr j t (by
        show (st.ds.set i _)[j]? = _
        rw [List.getElem?_set_ne hj]
        exact q)
      rw [List.getElem?_set_ne hj] at h1
      exact ⟨w, h1, h2⟩
  ow := fun j c q => by
    have hj : i ≠ j := fun z => by
      subst z
      exact no c q
    obtain ⟨b, u, h1, h⟩ := r'.ow j c (by
        show (st.ds.set i _)[j]? = _
        rw [List.getElem?_set_ne hj]
        exact q)
    rw [List.getElem?_set_ne hj] at h1
    exact ⟨b, u, h1, h⟩
  di := r.di
  tp := r'.tp
theorem Rl.putAt {i : Nat} {x : T} {v : V} (r : Rl Z B st σ H) (hi : i < st.ds.length) (d : Dn Z.K B v x) : Rl Z B (st.put i (.fr x)) ((σ.set i none).set i (some v)) H := by
  rw [List.set_set]
  exact r.put hi d
end

/-! ### list comprehensions -/
structure PTX (X : Cx) (ifs : List Expr) (tt : TT) (xt : XT) : Prop where
  pt : PTs X ifs tt
  sn : ∀ Z : Zone, Z.K = X.K → SndT Z tt xt
def xYes : XT := fun st k => k true st
theorem ptx_nil {X : Cx} : PTX X [] tYes xYes := ⟨pts_nil, fun Z _ st k h B σ H r Q q => q B true st H h r (Ex.refl B)⟩
theorem ptx_one {X : Cx} {c : Expr} {t : TT} {xt : XT} (h : PB X c t xt) : PTX X [c] t xt := ⟨pts_one h.pt, h.sn⟩
def xLc (xi : XI) (i : Nat) (xt : XT) (xe : XE) : XN := fun st k => xi st fun ts s1 => ∃ (p : T → Bool) (f : T → T), i < s1.ds.length ∧ (∀ c, s1.ds[i]? ≠ some (Slot.ow c)) ∧ ts.length < sizeLine ∧
  (∀ x ∈ ts, xt (s1.put i (.fr x)) fun b s2 => s2 = s1.put i (.fr x) ∧ b = p x) ∧ (∀ x ∈ ts, p x = true → xe (s1.put i (.fr x)) fun y s2 => s2 = s1.put i (.fr x) ∧ y = f x) ∧ k (.lst ((ts.filter p).map f)) s1
theorem filter_take {α : Type} (p : α → Bool) {ts : List α} {n : Nat} {x : α} (h : ts[n]? = some x) : (ts.take (n + 1)).filter p = (ts.take n).filter p ++ (if p x = true then [x] else []) := by
  rw [List.take_add_one, h, List.filter_append]
  congr 1
  show List.filter p [x] = _
  rw [List.filter_cons]
  rfl
theorem snd_lc {Z : Zone} {wi : TI} {xi : XI} {i : Nat} {tt : TT} {xt : XT} {te : TE} {xe : XE} (hi : SndI Z wi xi) (ht : ∀ Z' : Zone, Z'.K = Z.K → SndT Z' tt xt) (he : ∀ Z' : Zone, Z'.K = Z.K → SndE Z' te xe) : SndN Z (tLc wi (gName i) tt te [i]) (xLc xi i xt xe) := fun st k h B σ H r Q q =>
  hi st _ h B σ H r _ fun B1 J ts s1 H1 ⟨p, f, hl, hno, hz, h1, h2, hk⟩ e1 r1 ok D hD => by
    refine ⟨fun n m H' => m = ts.length - n ∧ n ≤ ts.length ∧ ∃ B' vs, Ex B1 B' ∧ Rl Z B' s1 σ H' ∧ Apt Z B' s1 σ D ∧ H' D = some (.lst vs) ∧ Dns Z.K B' vs (((ts.take n).filter p).map f),
      ⟨ts.length, by simp, Nat.zero_le _, B1, [], Ex.refl B1, r1.stp (Stp.apart r1.bk hD), r1.apart hD, upd_same, .nil⟩, fun n m H' ⟨hm, hle, B', vs, e2, r2, a2, hd, hds⟩ => ?_⟩
    by_cases hlt : n < ts.length
    · have hx : ts[n]? = some ts[n] := List.getElem?_eq_getElem hlt
      have hmem : ts[n] ∈ ts := List.getElem_mem hlt
      refine .inr ⟨ok.go B' n H' e2 r2.bk hlt, fun H2 => ∃ B2 vs2, Ex B1 B2 ∧ Rl Z B2 s1 σ H2 ∧ Apt Z B2 s1 σ D ∧ H2 D = some (.lst vs2) ∧ Dns Z.K B2 vs2 (((ts.take (n + 1)).filter p).map f), fun H2 ⟨B2, vs2, w⟩ => ⟨ts.length - (n + 1), by omega, rfl, hlt, B2, vs2, w⟩, fun v H2 y => ?_⟩
      obtain ⟨B2, st2, dv⟩ := ok.yld B' n _ v H' H2 e2 r2.bk hx y
      have r3 := r2.stp st2
      have hD2 : B2 D = none := by
        cases qq : B2 D with
        | none => rfl
        | some u =>
          rcases st2.nw D u qq with z | z
          · rw [hd] at z
            cases z
          · rw [a2.b] at z
            cases z
      have a3 : Apt Z B2 s1 σ D := ⟨hD2, a2.f, a2.o, a2.t⟩
      have hd3 : H2 D = some (.lst vs) := st2.hh D _ hd
      show wipe ((wipe σ [i]).set i (some v)) [i] = wipe σ [i] ∧ _
      refine ⟨by show (((σ.set i none).set i (some v)).set i none) = σ.set i none; rw [List.set_set, List.set_set], ?_⟩
      have r4 : Rl ⟨Z.K, B2, upd Z.F D (.lst vs)⟩ B2 (s1.put i (.fr ts[n])) ((σ.set i none).set i (some v)) H2 := (r3.pin a3 hd3).putAt hl dv
      refine ht ⟨Z.K, B2, upd Z.F D (.lst vs)⟩ rfl _ _ (h1 _ hmem) B2 _ H2 r4 _ fun B3 b s2 H3 ⟨hs2, hb⟩ r5 e5 => ?_
      subst hs2 hb
      have tk := filter_take p hx
      cases hp : p ts[n] with
      | true =>
        show te _ H3 _
        refine he ⟨Z.K, B2, upd Z.F D (.lst vs)⟩ rfl _ _ (h2 _ hmem hp) B3 _ H3 r5 _ fun B4 u y s3 H4 ⟨hs3, hy⟩ r6 e6 du => ?_
        subst hs3 hy
        have r6' : Rl ⟨Z.K, B2, upd Z.F D (.lst vs)⟩ B4 s1 σ H4 := Rl.unput (r3.pin a3 hd3) (e5.trans e6) hno (by rw [List.set_set] at r6; exact r6)
        obtain ⟨r7, hd7, a7⟩ := Rl.unpin r3 a3 r6'
        refine ⟨vs, hd7, ?_, B4, vs ++ [u], ((e2.trans st2.bb).trans e5).trans e6, r7.writeA a7, a7, upd_same, ?_⟩
        · rw [hds.length, List.length_map]
          refine Nat.lt_of_le_of_lt (List.length_filter_le _ _) ?_
          rw [List.length_take]
          omega
        · rw [tk, if_pos hp, List.map_append]
          exact (hds.mono ((st2.bb.trans e5).trans e6)).app (.one du)
      | false =>
        show ∃ B2 vs2, _
        have r6' : Rl ⟨Z.K, B2, upd Z.F D (.lst vs)⟩ B3 s1 σ H3 := Rl.unput (r3.pin a3 hd3) e5 hno (by rw [List.set_set] at r5; exact r5)
        obtain ⟨r7, hd7, a7⟩ := Rl.unpin r3 a3 r6'
        refine ⟨B3, vs, (e2.trans st2.bb).trans e5, r7, a7, hd7, ?_⟩
        rw [tk, if_neg (by rw [hp]; decide), List.append_nil]
        exact hds.mono (st2.bb.trans e5)
    · have e : n = ts.length := by omega
      subst e
      refine .inl ⟨ok.stop B' H' e2 r2.bk, ?_⟩
      rw [List.take_length] at hds
      exact q B' D (.lst vs) (.lst ((ts.filter p).map f)) s1 H' hk r2 (e1.trans e2) a2 hd hds
section
variable {X : Cx} {elt tg iter : Expr} {ifs : List Expr} {scope : Scope} {n : Str} {p2 pos spos py : Pos} {wi : TI} {xi : XI} {i j : Nat} {tt : TT} {xt : XT} {te : TE} {xe : XE}
theorem pn_lc (hc : X.calm = true) (hN : X.N.Nodup) (hi : PIX X (.Name n p2) iter wi xi) (ok : BlkOk X.N X.env.scope scope [(n, i)])
    (hg : ∀ (s : Shared) (H : Hp) (C : Addr) (cl : List (Str × Addr)) (fp : List Addr), PG (X.blk s H scope (compEnvC scope cl C X.env) fp) (.Name n p2) (gName i)) (ht : ∀ (s : Shared) (H : Hp) (C : Addr) (cl : List (Str × Addr)) (fp : List Addr), PTX (X.blk s H scope (compEnvC scope cl C X.env) fp) ifs tt xt)
    (he : ∀ (s : Shared) (H : Hp) (C : Addr) (cl : List (Str × Addr)) (fp : List Addr), PX (X.blk s H scope (compEnvC scope cl C X.env) fp) elt te xe) (hs : ∀ x, foldedSetIterable iter X.env x = pure x := by intro _; rfl)
    (inh : Nonempty (Shared × Hp)) : PN X (.ListComp elt [⟨.Name n p2, iter, ifs, 0⟩] scope pos) (tLc wi (gName i) tt te [i]) (xLc xi i xt xe) :=
  ⟨pe_lc (own := [(n, i)]) hc hN hi.pi ok hg (fun s H C cl fp => (ht s H C cl fp).pt) (fun s H C cl fp => (he s H C cl fp).pe) hs, fun Z z => by
    obtain ⟨s, H⟩ := inh
    exact snd_lc (hi.sn Z z) (fun Z' z' => (ht s H 0 [] []).sn Z' (z'.trans z)) fun Z' z' => (he s H 0 [] []).sn Z' (z'.trans z)⟩
theorem sx_setLc {y : Str} (hc : X.calm = true) (hN : X.N.Nodup) (hy : X.N[j]? = some y) (hyl : X.env.scope.names.lookup y = some .local) (hsw : swapsWith (.ListComp elt [⟨.Name n p2, iter, ifs, 0⟩] scope pos) (some (.Name y py)) spos.line X.env = pure true)
    (hi : PIX X (.Name n p2) iter wi xi) (ok : BlkOk X.N X.env.scope scope [(n, i)])
    (hg : ∀ (s : Shared) (H : Hp) (C : Addr) (cl : List (Str × Addr)) (fp : List Addr), PG (X.blk s H scope (compEnvC scope cl C X.env) fp) (.Name n p2) (gName i)) (ht : ∀ (s : Shared) (H : Hp) (C : Addr) (cl : List (Str × Addr)) (fp : List Addr), PTX (X.blk s H scope (compEnvC scope cl C X.env) fp) ifs tt xt)
    (he : ∀ (s : Shared) (H : Hp) (C : Addr) (cl : List (Str × Addr)) (fp : List Addr), PX (X.blk s H scope (compEnvC scope cl C X.env) fp) elt te xe) (hs : ∀ x, foldedSetIterable iter X.env x = pure x := by intro _; rfl)
    (inh : Nonempty (Shared × Hp)) : PSX X (.Assign [.Name y py] (.ListComp elt [⟨.Name n p2, iter, ifs, 0⟩] scope pos) spos) (tAsg (tLc wi (gName i) tt te [i]) (gName j)) (xSetW j (xLc xi i xt xe)) :=
  ⟨ps_setLc (own := [(n, i)]) hc hN hy hyl hsw hi.pi ok hg (fun s H C cl fp => (ht s H C cl fp).pt) (fun s H C cl fp => (he s H C cl fp).pe) hs, fun Z z => by
    obtain ⟨s, H⟩ := inh
    exact snd_setW (snd_lc (hi.sn Z z) (fun Z' z' => (ht s H 0 [] []).sn Z' (z'.trans z)) fun Z' z' => (he s H 0 [] []).sn Z' (z'.trans z))⟩
theorem Cx.inh (X : Cx) : Nonempty (Shared × Hp) := ⟨(X.s_0, X.H_0)⟩
end

/-! ### owned lists, the shared list -/
def S.own (s : S) (i : Nat) (ts : List T) : Prop := s.ds[i]? = some (Slot.ow (.lst ts))
section
variable {Z : Zone} {B : Hp} {st : S} {σ : L2.St} {H : Hp} {i : Nat} {ts : List T}
theorem Rl.own (r : Rl Z B st σ H) (h : st.own i ts) : ∃ p vs, σ[i]? = some (some (V.ref p)) ∧ H p = some (.lst vs) ∧ Dns Z.K B vs ts := by
  obtain ⟨p, o, h1, h2, h3, _⟩ := r.ow i _ h
  cases o <;> first | exact ⟨p, _, h1, h2, h3⟩ | exact (show False from h3).elim
theorem Rl.shared {a : Addr} {tp : List T} (r : Rl Z B st σ H) (h : st.tp = some (a, tp)) : ∃ vs, H a = some (.lst vs) ∧ Dns Z.K B vs tp := by
  obtain ⟨_, _, o, h2, h3⟩ := r.tp a tp h
  cases o <;> first | exact ⟨_, h2, h3⟩ | exact (show False from h3).elim
theorem Rl.ref_of {a : Addr} (r : Rl Z B st σ H) (h : st.ds[i]? = some (Slot.fr (.adr a))) : σ[i]? = some (some (V.ref a)) := by
  obtain ⟨v, h1, h2⟩ := r.fr i _ h
  cases h2
  exact h1
end
theorem Dns.ixN_get {α : Type} {ts : List α} {i : Int} {n : Nat} (h : ixN ts.length i = some n) : n < ts.length := (ixN_seq h).2.1
/-- x[e], x owned -/
def xIxO (i : Nat) (xe : XE) : XE := fun st k => (∃ ts, st.own i ts) ∧ xe st fun u s1 => ∃ j ts t, u = .int j ∧ s1.own i ts ∧ atI ts j = some t ∧ k t s1
def xLenO (i : Nat) : XE := fun st k => ∃ ts, st.own i ts ∧ k (.int ts.length) st
/-- x[e], x the shared list -/
def xIxT (i : Nat) (xe : XE) : XE := fun st k => ∃ a, st.ds[i]? = some (Slot.fr (.adr a)) ∧ xe st fun u s1 => ∃ j tp t, u = .int j ∧ s1.tp = some (a, tp) ∧ atI tp j = some t ∧ k t s1
def xApp (i : Nat) (xe : XE) : XE := fun st k => (∃ ts, st.own i ts) ∧ xe st fun t s1 => ∃ ts, s1.own i ts ∧ ts.length < sizeLine ∧ k .non (s1.put i (.ow (.lst (ts ++ [t]))))
def xPopAt (i : Nat) (xe : XE) : XE := fun st k => (∃ ts, st.own i ts) ∧ xe st fun u s1 => ∃ j n ts t, u = .int j ∧ s1.own i ts ∧ ts.length ≤ sizeLine ∧ ixN ts.length j = some n ∧ ts[n]? = some t ∧ k t (s1.put i (.ow (.lst (ts.eraseIdx n))))
def xRem (i : Nat) (xe : XE) : XE := fun st k => (∃ ts, st.own i ts) ∧ xe st fun u s1 => ∃ (j : Int) (ns : List Int), u = .int j ∧ s1.own i (ns.map T.int) ∧ j ∈ ns ∧ k .non (s1.put i (.ow (.lst ((ns.erase j).map T.int))))
def xIdx (xa xe : XE) : XE := fun st k => xa st fun t s1 => (∃ ts, t = .lst ts) ∧ xe s1 fun u s2 => ∃ (j : Int) (ns : List Int), u = .int j ∧ t = .lst (ns.map T.int) ∧ j ∈ ns ∧ k (.int (ns.idxOf j : Nat)) s2
/-- x[i] = e, x owned; the shared list -/
def xSto (i : Nat) (xi xe : XE) : XS := fun D st => xe st fun t s1 => (∃ ts, s1.own i ts) ∧ xi s1 fun u s2 => ∃ j n ts, u = .int j ∧ s2.own i ts ∧ ixN ts.length j = some n ∧ D.nx (s2.put i (.ow (.lst (ts.set n t))))
def xStoT (i : Nat) (xi xe : XE) : XS := fun D st => xe st fun t s1 => ∃ a, s1.ds[i]? = some (Slot.fr (.adr a)) ∧ xi s1 fun u s2 => ∃ j n tp, u = .int j ∧ s2.tp = some (a, tp) ∧ ixN tp.length j = some n ∧ D.nx (s2.tape (some (a, tp.set n t)))
theorem atI_V {K : PySem.W.Frag} {B : Hp} {vs : List V} {ts : List T} (d : Dns K B vs ts) {j : Int} {n : Nat} (h : ixN ts.length j = some n) : ixN vs.length j = some n := by rw [d.length]; exact h
section
variable {Z : Zone} {i : Nat} {te ta ti : TE} {xe xa xi : XE}
theorem snd_ixO (he : SndE Z te xe) : SndE Z (tOp (rIx Z.K) (tVar i) te) (xIxO i xe) := fun st k ⟨⟨ts0, h0⟩, h⟩ B σ H r Q q => by
  obtain ⟨p, vs0, g1, _⟩ := r.own h0
  refine ⟨.ref p, g1, he st _ h B σ H r _ fun B1 v u s1 H1 ⟨j, ts, t, hu, ho, ha, h1⟩ r1 e1 d1 => ?_⟩
  obtain ⟨p', vs, g2, g3, g4⟩ := r1.own ho
  rw [g1] at g2
  cases g2
  subst hu
  cases d1
  obtain ⟨w, hw, dw⟩ := g4.at ha
  exact .inl ⟨p, vs, j, w, rfl, rfl, SqL.of g3, hw, q B1 w t s1 H1 h1 r1 e1 dw⟩
theorem snd_lenO : SndE Z (tCB (fun xs H Q => ∃ p ys, xs = [.ref p] ∧ (SqL Z.K H p ys ∨ SqT Z.K H p ys) ∧ Q (.int ys.length) H) (tCons (tVar i) tNil)) (xLenO i) := fun st k ⟨ts, ho, h⟩ B σ H r Q q => by
  obtain ⟨p, vs, g2, g3, g4⟩ := r.own ho
  exact ⟨.ref p, g2, p, vs, rfl, .inl (SqL.of g3), by rw [g4.length]; exact q B _ _ st H h r (Ex.refl B) (.int _)⟩
theorem snd_ixT (he : SndE Z te xe) : SndE Z (tOp (rIx Z.K) (tVar i) te) (xIxT i xe) := fun st k ⟨a, h0, h⟩ B σ H r Q q => by
  refine ⟨.ref a, r.ref_of h0, he st _ h B σ H r _ fun B1 v u s1 H1 ⟨j, tp, t, hu, ht, ha, h1⟩ r1 e1 d1 => ?_⟩
  obtain ⟨vs, g3, g4⟩ := r1.shared ht
  subst hu
  cases d1
  obtain ⟨w, hw, dw⟩ := g4.at ha
  exact .inl ⟨a, vs, j, w, rfl, rfl, SqL.of g3, hw, q B1 w t s1 H1 h1 r1 e1 dw⟩
theorem snd_app (he : SndE Z te xe) : SndE Z (tBM Z.K "list" rAppend (tVar i) (tCons te tNil)) (xApp i xe) := fun st k ⟨⟨ts0, h0⟩, h⟩ B σ H r Q q => by
  obtain ⟨p, vs0, g1, g0, _⟩ := r.own h0
  refine ⟨.ref p, g1, .inl ⟨rfl, _, SqL.of g0⟩, he st _ h B σ H r _ fun B1 v t s1 H1 ⟨ts, ho, hz, h1⟩ r1 e1 d1 => ?_⟩
  obtain ⟨p', vs, g2, g3, g4⟩ := r1.own ho
  rw [g1] at g2
  cases g2
  exact ⟨p, vs, v, rfl, rfl, g3, by rw [g4.length]; exact hz, q B1 _ _ _ _ h1 (r1.write ho g1 (show Od Z.K B1 (.lst (vs ++ [v])) (.lst (ts ++ [t])) from g4.app (.one d1))) e1 .non⟩
theorem snd_popAt (he : SndE Z te xe) : SndE Z (tBM Z.K "list" rPopAt (tVar i) (tCons te tNil)) (xPopAt i xe) := fun st k ⟨⟨ts0, h0⟩, h⟩ B σ H r Q q => by
  obtain ⟨p, vs0, g1, g0, _⟩ := r.own h0
  refine ⟨.ref p, g1, .inl ⟨rfl, _, SqL.of g0⟩, he st _ h B σ H r _ fun B1 v t s1 H1 ⟨j, n, ts, y, hu, ho, hz, hn, hy, h1⟩ r1 e1 d1 => ?_⟩
  obtain ⟨p', vs, g2, g3, g4⟩ := r1.own ho
  rw [g1] at g2
  cases g2
  subst hu
  cases d1
  obtain ⟨w, hw, dw⟩ := g4.get hy
  obtain ⟨x1, x2, x3, x4⟩ := ixN_seq hn
  have hs : (sizeLine : Nat) < 2 ^ 63 := by decide
  exact ⟨p, vs, j, n, w, rfl, rfl, g3, by omega, by omega, by rw [g4.length]; exact x1, hw, q B1 _ _ _ _ h1 (r1.write ho g1 (show Od Z.K B1 (.lst (vs.eraseIdx n)) (.lst (ts.eraseIdx n)) from g4.erase n)) e1 dw⟩
theorem erase_idx {α : Type} [BEq α] [LawfulBEq α] (l : List α) (k : α) : l.eraseIdx (l.idxOf k) = l.erase k := by
  induction l with
  | nil => rfl
  | cons x r ih =>
    rw [List.idxOf_cons, List.erase_cons]
    by_cases h : x == k
    · rw [h]
      rfl
    · have h' : (x == k) = false := by simpa using h
      rw [h']
      show x :: r.eraseIdx (r.idxOf k) = x :: r.erase k
      rw [ih]
theorem idx_get {l : List Int} {k : Int} (h : k ∈ l) : l[l.idxOf k]? = some k ∧ ∀ m, m < l.idxOf k → l[m]? ≠ some k := by
  induction l with
  | nil => cases h
  | cons x r ih =>
    rw [List.idxOf_cons]
    by_cases hx : x == k
    · have e : x = k := by simpa using hx
      rw [hx]
      exact ⟨by rw [e]; rfl, fun m hm => by simp at hm⟩
    · have h' : (x == k) = false := by simpa using hx
      have ne : x ≠ k := by simpa using hx
      rw [h']
      have hr : k ∈ r := by
        rcases List.mem_cons.mp h with e | e
        · exact absurd e.symm ne
        · exact e
      obtain ⟨i1, i2⟩ := ih hr
      refine ⟨i1, fun m hm => ?_⟩
      cases m with
      | zero =>
        intro q
        exact ne (Option.some.inj q)
      | succ m => exact i2 m (Nat.lt_of_succ_lt_succ hm)
theorem snd_rem (he : SndE Z te xe) : SndE Z (tBM Z.K "list" rRemI (tVar i) (tCons te tNil)) (xRem i xe) := fun st k ⟨⟨ts0, h0⟩, h⟩ B σ H r Q q => by
  obtain ⟨p, vs0, g1, g0, _⟩ := r.own h0
  refine ⟨.ref p, g1, .inl ⟨rfl, _, SqL.of g0⟩, he st _ h B σ H r _ fun B1 v t s1 H1 ⟨j, ns, hu, ho, hm, h1⟩ r1 e1 d1 => ?_⟩
  obtain ⟨p', vs, g2, g3, g4⟩ := r1.own ho
  rw [g1] at g2
  cases g2
  subst hu
  cases d1
  rw [g4.intsV] at g3
  obtain ⟨y1, y2⟩ := idx_get hm
  refine ⟨p, ns, j, ns.idxOf j, rfl, rfl, g3, y1, y2, ?_⟩
  rw [erase_idx]
  exact q B1 _ _ _ _ h1 (r1.write ho g1 (show Od Z.K B1 (.lst ((ns.erase j).map V.int)) (.lst ((ns.erase j).map T.int)) from Dns.ints)) e1 .non
theorem snd_idx (ha : SndE Z ta xa) (he : SndE Z te xe) : SndE Z (tBM Z.K "list" (rIndex Z.K) ta (tCons te tNil)) (xIdx xa xe) := fun st k h B σ H r Q q =>
  ha st _ h B σ H r _ fun B1 v t s1 H1 ⟨⟨ts, ht⟩, h1⟩ r1 e1 d1 => by
    subst ht
    cases d1 with
    | @lst p vs _ hl ds =>
      refine ⟨.inl ⟨rfl, _, SqL.of (r1.bk _ _ hl)⟩, he s1 _ h1 B1 σ H1 r1 _ fun B2 w u s2 H2 ⟨j, ns, hu, ht, hm, h2⟩ r2 e2 d2 => ?_⟩
      subst hu
      cases d2
      have e : ts = ns.map T.int := T.lst.inj ht
      subst e
      rw [ds.intsV] at hl
      obtain ⟨y1, y2⟩ := idx_get hm
      refine ⟨p, ns.map V.int, .int j, ns.idxOf j, .int j, rfl, rfl, SqL.of (r2.bk _ _ (e2 _ _ hl)), rfl, ?_, ?_, ?_, fun m z' hm' hz' => ?_, q B2 _ _ s2 H2 h2 r2 (e1.trans e2) (.int _)⟩
      · rw [List.all_eq_true]
        intro x hx
        obtain ⟨y, _, rfl⟩ := List.mem_map.mp hx
        rfl
      · rw [List.getElem?_map, y1]
        rfl
      · show (j == j) = true
        exact beq_self_eq_true j
      · rw [List.getElem?_map] at hz'
        cases g : ns[m]? with
        | none => rw [g] at hz'; cases hz'
        | some y =>
          rw [g] at hz'
          cases hz'
          show (y == j) = false
          rw [beq_eq_false_iff_ne]
          intro z
          exact y2 m hm' (by rw [g, z])
theorem snd_sto (hi : SndE Z ti xi) (he : SndE Z te xe) : SndS Z (tAsg te (gSub (tVar i) ti rSetL)) (xSto i xi xe) := fun D st h B σ H r D' d =>
  he st _ h B σ H r _ fun B1 v t s1 H1 ⟨⟨ts0, h0⟩, h1⟩ r1 e1 d1 => by
    obtain ⟨p, vs0, g1, g0, _⟩ := r1.own h0
    refine ⟨.ref p, g1, hi s1 _ h1 B1 σ H1 r1 _ fun B2 w u s2 H2 ⟨j, n, ts, hu, ho, hn, h2⟩ r2 e2 d2 => ?_⟩
    obtain ⟨p', vs, g2, g3, g4⟩ := r2.own ho
    rw [g1] at g2
    cases g2
    subst hu
    cases d2
    exact ⟨p, vs, j, n, rfl, rfl, g3, atI_V g4 hn, d.nx B2 _ _ _ h2 (e1.trans e2) (r2.write ho g1 (show Od Z.K B2 (.lst (vs.set n v)) (.lst (ts.set n t)) from g4.set n (d1.mono e2)))⟩
theorem snd_stoT (hi : SndE Z ti xi) (he : SndE Z te xe) : SndS Z (tAsg te (gSub (tVar i) ti rSetL)) (xStoT i xi xe) := fun D st h B σ H r D' d =>
  he st _ h B σ H r _ fun B1 v t s1 H1 ⟨a, h0, h1⟩ r1 e1 d1 => by
    refine ⟨.ref a, r1.ref_of h0, hi s1 _ h1 B1 σ H1 r1 _ fun B2 w u s2 H2 ⟨j, n, tp, hu, ht, hn, h2⟩ r2 e2 d2 => ?_⟩
    obtain ⟨vs, g3, g4⟩ := r2.shared ht
    subst hu
    cases d2
    exact ⟨a, vs, j, n, rfl, rfl, g3, atI_V g4 hn, d.nx B2 _ _ _ h2 (e1.trans e2) (r2.writeT ht (g4.set n (d1.mono e2)))⟩
end
section
variable {X : Cx} {i : Nat} {te ta ti to : TE} {xe xa xi x : XE} {o e a b : Expr} {name : Str} {apos cpos pos : Pos} {T0 id : String} {r : V → List V → Hp → VK → Prop}
theorem px_bm1 (pa : PlainAttrs T0) (slot : PySem.Slot T0 name id) (hty : typeOf (.builtin id) = pure (.type "method_descriptor")) (hm : MtR X id r) (ho : PE X o to) (he : PX X e te xe) (sn : ∀ Z : Zone, Z.K = X.K → SndE Z te xe → SndE Z (tBM X.K T0 r to (tCons te tNil)) x)
    (hbase : attributeBase o name X.env (eval o X.env) = eval o X.env := by rfl)
    (hfew : ((backTo cpos (starEach [e] X.env)).all (fun x => !x.1) && (backToKw cpos (keywordEach [] X.env)).all (fun x => x.1.isSome)
      && decide (([e] : List Expr).length + ([] : List Keyword).length + (if ([] : List Keyword).isEmpty then 0 else 1) < 30)) = true := by rfl)
    (hline : (apos.endLine == cpos.line) = true := by rfl) (hs : starEach [e] X.env = (false, eval e X.env) :: starEach [] X.env := by rfl) (hplain : (backTo cpos (starEach [] X.env)).any (·.1) = false := by rfl) :
    PX X (.Call (.Attribute o name apos) [e] [] cpos) (tBM X.K T0 r to (tCons te tNil)) x := ⟨pe_bm pa slot hty hm ho (pa_cons he.pe pa_nil hs) hbase hfew hline hs hplain, fun Z z => sn Z z (he.sn Z z)⟩
theorem px_app (ho : PE X o (tVar i)) (he : PX X e te xe) (hbase : attributeBase o "append" X.env (eval o X.env) = eval o X.env := by rfl)
    (hfew : ((backTo cpos (starEach [e] X.env)).all (fun x => !x.1) && (backToKw cpos (keywordEach [] X.env)).all (fun x => x.1.isSome)
      && decide (([e] : List Expr).length + ([] : List Keyword).length + (if ([] : List Keyword).isEmpty then 0 else 1) < 30)) = true := by rfl)
    (hline : (apos.endLine == cpos.line) = true := by rfl) (hs : starEach [e] X.env = (false, eval e X.env) :: starEach [] X.env := by rfl) (hplain : (backTo cpos (starEach [] X.env)).any (·.1) = false := by rfl) :
    PX X (.Call (.Attribute o "append" apos) [e] [] cpos) (tBM X.K "list" rAppend (tVar i) (tCons te tNil)) (xApp i xe) :=
  px_bm1 PySem.F.plainAttrs_list PySem.F.slot_list_append PySem.F.type_list_append mt_append ho he (fun Z z h => by rw [← z]; exact snd_app h) hbase hfew hline hs hplain
theorem px_popAt (ho : PE X o (tVar i)) (he : PX X e te xe) (hbase : attributeBase o "pop" X.env (eval o X.env) = eval o X.env := by rfl)
    (hfew : ((backTo cpos (starEach [e] X.env)).all (fun x => !x.1) && (backToKw cpos (keywordEach [] X.env)).all (fun x => x.1.isSome)
      && decide (([e] : List Expr).length + ([] : List Keyword).length + (if ([] : List Keyword).isEmpty then 0 else 1) < 30)) = true := by rfl)
    (hline : (apos.endLine == cpos.line) = true := by rfl) (hs : starEach [e] X.env = (false, eval e X.env) :: starEach [] X.env := by rfl) (hplain : (backTo cpos (starEach [] X.env)).any (·.1) = false := by rfl) :
    PX X (.Call (.Attribute o "pop" apos) [e] [] cpos) (tBM X.K "list" rPopAt (tVar i) (tCons te tNil)) (xPopAt i xe) :=
  px_bm1 PySem.F.plainAttrs_list PySem.F.slot_list_pop PySem.F.type_list_pop mt_popAt ho he (fun Z z h => by rw [← z]; exact snd_popAt h) hbase hfew hline hs hplain
theorem px_rem (ho : PE X o (tVar i)) (he : PX X e te xe) (hbase : attributeBase o "remove" X.env (eval o X.env) = eval o X.env := by rfl)
    (hfew : ((backTo cpos (starEach [e] X.env)).all (fun x => !x.1) && (backToKw cpos (keywordEach [] X.env)).all (fun x => x.1.isSome)
      && decide (([e] : List Expr).length + ([] : List Keyword).length + (if ([] : List Keyword).isEmpty then 0 else 1) < 30)) = true := by rfl)
    (hline : (apos.endLine == cpos.line) = true := by rfl) (hs : starEach [e] X.env = (false, eval e X.env) :: starEach [] X.env := by rfl) (hplain : (backTo cpos (starEach [] X.env)).any (·.1) = false := by rfl) :
    PX X (.Call (.Attribute o "remove" apos) [e] [] cpos) (tBM X.K "list" rRemI (tVar i) (tCons te tNil)) (xRem i xe) :=
  px_bm1 PySem.F.plainAttrs_list PySem.F.slot_list_remove PySem.F.type_list_remove mt_remove ho he (fun Z z h => by rw [← z]; exact snd_rem h) hbase hfew hline hs hplain
theorem px_idx (ho : PX X o to xa) (he : PX X e te xe) (hbase : attributeBase o "index" X.env (eval o X.env) = eval o X.env := by rfl)
    (hfew : ((backTo cpos (starEach [e] X.env)).all (fun x => !x.1) && (backToKw cpos (keywordEach [] X.env)).all (fun x => x.1.isSome)
      && decide (([e] : List Expr).length + ([] : List Keyword).length + (if ([] : List Keyword).isEmpty then 0 else 1) < 30)) = true := by rfl)
    (hline : (apos.endLine == cpos.line) = true := by rfl) (hs : starEach [e] X.env = (false, eval e X.env) :: starEach [] X.env := by rfl) (hplain : (backTo cpos (starEach [] X.env)).any (·.1) = false := by rfl) :
    PX X (.Call (.Attribute o "index" apos) [e] [] cpos) (tBM X.K "list" (rIndex X.K) to (tCons te tNil)) (xIdx xa xe) :=
  px_bm1 PySem.F.plainAttrs_list PySem.F.slot_list_index PySem.F.type_list_index mt_index ho.pe he (fun Z z h => by rw [← z]; exact snd_idx (ho.sn Z z) h) hbase hfew hline hs hplain
theorem px_ixO (ho : PE X a (tVar i)) (hb : PX X b te xe) (hs : PlainIx b := by exact fun _ _ => rfl) : PX X (.Subscript a b pos) (tOp (rIx X.K) (tVar i) te) (xIxO i xe) := ⟨pe_ix ix_seq ho hb.pe hs, fun Z z => by rw [← z]; exact snd_ixO (hb.sn Z z)⟩
theorem px_ixT (ho : PE X a (tVar i)) (hb : PX X b te xe) (hs : PlainIx b := by exact fun _ _ => rfl) : PX X (.Subscript a b pos) (tOp (rIx X.K) (tVar i) te) (xIxT i xe) := ⟨pe_ix ix_seq ho hb.pe hs, fun Z z => by rw [← z]; exact snd_ixT (hb.sn Z z)⟩
theorem px_lenO {p : Pos} (hm : X.mg "len" = none) (ho : PE X a (tVar i)) (hg : Gl X "len" := by rfl) (he : starEach [a] X.env = (false, eval a X.env) :: starEach [] X.env := by rfl) (hpl : (backTo pos (starEach [] X.env)).any (·.1) = false := by rfl) : PX X (.Call (.Name "len" p) [a] [] pos) (tCB (fun xs H Q => ∃ p ys, xs = [.ref p] ∧ (SqL X.K H p ys ∨ SqT X.K H p ys) ∧ Q (.int ys.length) H) (tCons (tVar i) tNil)) (xLenO i) :=
  ⟨pe_callB call_len_seq hg hm PySem.boot_len (pa_cons ho pa_nil he) (by decide) (by decide) he hpl, fun Z z => by rw [← z]; exact snd_lenO⟩
theorem sx_sto (ho : PE X a (tVar i)) (hi : PX X b ti xi) (he : PX X e te xe) (hp : PS X (.Assign [.Subscript a b pos] e cpos) (tAsg te (gSub (tVar i) ti rSetL))) : PSX X (.Assign [.Subscript a b pos] e cpos) (tAsg te (gSub (tVar i) ti rSetL)) (xSto i xi xe) :=
  ⟨hp, fun Z z => snd_sto (hi.sn Z z) (he.sn Z z)⟩
theorem sx_stoT (ho : PE X a (tVar i)) (hi : PX X b ti xi) (he : PX X e te xe) (hp : PS X (.Assign [.Subscript a b pos] e cpos) (tAsg te (gSub (tVar i) ti rSetL))) : PSX X (.Assign [.Subscript a b pos] e cpos) (tAsg te (gSub (tVar i) ti rSetL)) (xStoT i xi xe) :=
  ⟨hp, fun Z z => snd_stoT (hi.sn Z z) (he.sn Z z)⟩
end
end TL

namespace TL
open PySem PySem.Spec PyProof.Rows L2

/-- the built-in names stand for the built-ins -/
structure Bt (mg : Str → Option Value) : Prop where
  len : mg "len" = none
  range : mg "range" = none
  tuple : mg "tuple" = none
  list : mg "list" = none
  int : mg "int" = none
  str : mg "str" = none
  bool : mg "bool" = none
  isinst : mg "isinstance" = none
  sorted : mg "sorted" = none
  enumerate : mg "enumerate" = none
  zip : mg "zip" = none

section
variable {X : Cx} {a b c e : Expr} {es : List Expr} {ta tb tc te : TE} {xa xb xc x : XE} {tA : TA} {xs : XA} {pos p p2 : Pos}
/-! arithmetic -/
def rADD (K : PySem.W.Frag) : R2 := fun x y H Q => (rI0 fun i j => .int (i + j)) x y H Q ∨ (rCatA K x y H Q ∨ rCat x y H Q)
theorem op_ADD : OpR X (binaryOp .Add) (rADD X.K) := OpR.or op_add (OpR.or op_catA op_cat)
theorem rs_ADD {K : PySem.W.Frag} : RS2 K (rADD K) addR := RS2.or rs_I0 (RS2.or rs_catA rs_cat)
def rMUL : R2 := fun x y H Q => (rI CMulW fun i j => .int (i * j)) x y H Q ∨ rRep x y H Q
theorem op_MUL : OpR X (binaryOp .Mult) rMUL := OpR.or op_mulW op_rep
theorem rs_MUL {K : PySem.W.Frag} : RS2 K rMUL mulR := RS2.or rs_I rs_rep
theorem px_add (ha : PX X a ta xa) (hb : PX X b tb xb) : PX X (.BinOp a .Add b pos) (tOp (rADD X.K) ta tb) (xOp addR xa xb) := px_op op_ADD rs_ADD ha hb
theorem px_sub (ha : PX X a ta xa) (hb : PX X b tb xb) : PX X (.BinOp a .Sub b pos) (tOp (rI0 fun i j => .int (i - j)) ta tb) (xOp subR xa xb) := px_op op_sub rs_I0 ha hb
theorem px_mul (ha : PX X a ta xa) (hb : PX X b tb xb) : PX X (.BinOp a .Mult b pos) (tOp rMUL ta tb) (xOp mulR xa xb) := px_op op_MUL rs_MUL ha hb
theorem px_mod (ha : PX X a ta xa) (hb : PX X b tb xb) : PX X (.BinOp a .Mod b pos) (tOp (rI (fun _ j => 0 < j) fun i j => .int (i % j)) ta tb) (xOp modR xa xb) := px_op op_mod rs_I ha hb
theorem px_fdiv (ha : PX X a ta xa) (hb : PX X b tb xb) : PX X (.BinOp a .FloorDiv b pos) (tOp (rI CDivW fun i j => .int (i / j)) ta tb) (xOp divR xa xb) := px_op op_fdivW rs_I ha hb
theorem px_pow (ha : PX X a ta xa) (hb : PX X b tb xb) : PX X (.BinOp a .Pow b pos) (tOp (rI CPow fun i j => .int (i ^ j.toNat)) ta tb) (xOp powR xa xb) := px_op op_pow rs_I ha hb
theorem px_bor (ha : PX X a ta xa) (hb : PX X b tb xb) : PX X (.BinOp a .BitOr b pos) (tOp (rI0 fun i j => .int (Builtin.bitOr i j)) ta tb) (xOp orR xa xb) := px_op op_or rs_I0 ha hb
theorem px_neg (ha : PX X a ta xa) : PX X (.UnaryOp .USub a pos) (tUn (rU fun i => .int (-i)) ta) (xUn negR xa) := px_un un_neg rs_neg ha
/-! comparisons -/
def rLE (K : PySem.W.Frag) : R2 := fun x y H Q => (rI0 fun i j => .bl (decide (i ≤ j))) x y H Q ∨ rLeT K x y H Q
theorem op_LE (hu : X.A.units < cLine) : OpR X (compareOp .LtE) (rLE X.K) := OpR.or op_le (op_leT hu)
theorem rs_LE {K : PySem.W.Frag} : RS2 K (rLE K) leR := RS2.or rs_C rs_leT
def rGE (K : PySem.W.Frag) : R2 := fun x y H Q => (rI0 fun i j => .bl (decide (j ≤ i))) x y H Q ∨ rGeT K x y H Q
theorem op_GE (hu : X.A.units < cLine) : OpR X (compareOp .GtE) (rGE X.K) := OpR.or op_ge (op_geT hu)
theorem rs_GE {K : PySem.W.Frag} : RS2 K (rGE K) geR := RS2.or rs_C rs_geT
def rEQ (K : PySem.W.Frag) : R2 := fun x y H Q => rEq x y H Q ∨ rEqD K x y H Q
theorem op_EQ (hu : X.A.units + 64 < cLine) : OpR X (compareOp .Eq) (rEQ X.K) := OpR.or op_eq (op_eqD hu)
theorem rs_EQ {K : PySem.W.Frag} : RS2 K (rEQ K) (eqR false) := RS2.or rs_eqF rs_eqD
def rNE (K : PySem.W.Frag) : R2 := fun x y H Q => rNe x y H Q ∨ rNeD K x y H Q
theorem op_NE (hu : X.A.units + 64 < cLine) : OpR X (compareOp .NotEq) (rNE X.K) := OpR.or op_ne (op_neD hu)
theorem rs_NE {K : PySem.W.Frag} : RS2 K (rNE K) (eqR true) := RS2.or rs_neF rs_neD
def isX (n : Bool) : T → T → T → Prop := fun x y z => isR n x y z ∨ isB n x y z
def rIS : R2 := fun x y H Q => (y = .non ∧ Q (.bl (decide (x = .non))) H) ∨ rIsB x y H Q
theorem op_IS : OpR X (compareOp .Is) rIS := OpR.or op_isN op_isBl
theorem rs_IS {K : PySem.W.Frag} : RS2 K rIS (isX false) := RS2.or rs_isN rs_is
def rISN : R2 := fun x y H Q => (y = .non ∧ Q (.bl (!decide (x = .non))) H) ∨ rNotB x y H Q
theorem op_ISN : OpR X (compareOp .IsNot) rISN := OpR.or op_notN op_notBl
theorem rs_ISN {K : PySem.W.Frag} : RS2 K rISN (isX true) := RS2.or rs_notN rs_isnot
theorem px_lt (ha : PX X a ta xa) (hb : PX X b tb xb) : PX X (.Compare a [.Lt] [b] pos) (tOp (rI0 fun i j => .bl (decide (i < j))) ta tb) (xOp ltR xa xb) := px_cmp op_lt rs_C ha hb (nomark _)
theorem pb_lt (ha : PX X a ta xa) (hb : PX X b tb xb) : PB X (.Compare a [.Lt] [b] pos) (tTest (tOp (rI0 fun i j => .bl (decide (i < j))) ta tb)) (xB (xOp ltR xa xb)) := pb_cmp op_lt rs_C ha hb (nomark _)
theorem px_gt (ha : PX X a ta xa) (hb : PX X b tb xb) : PX X (.Compare a [.Gt] [b] pos) (tOp (rI0 fun i j => .bl (decide (j < i))) ta tb) (xOp gtR xa xb) := px_cmp op_gt rs_C ha hb (nomark _)
theorem pb_gt (ha : PX X a ta xa) (hb : PX X b tb xb) : PB X (.Compare a [.Gt] [b] pos) (tTest (tOp (rI0 fun i j => .bl (decide (j < i))) ta tb)) (xB (xOp gtR xa xb)) := pb_cmp op_gt rs_C ha hb (nomark _)
theorem px_le (hu : X.A.units < cLine) (ha : PX X a ta xa) (hb : PX X b tb xb) : PX X (.Compare a [.LtE] [b] pos) (tOp (rLE X.K) ta tb) (xOp leR xa xb) := px_cmp (op_LE hu) rs_LE ha hb (nomark _)
theorem pb_le (hu : X.A.units < cLine) (ha : PX X a ta xa) (hb : PX X b tb xb) : PB X (.Compare a [.LtE] [b] pos) (tTest (tOp (rLE X.K) ta tb)) (xB (xOp leR xa xb)) := pb_cmp (op_LE hu) rs_LE ha hb (nomark _)
theorem px_ge (hu : X.A.units < cLine) (ha : PX X a ta xa) (hb : PX X b tb xb) : PX X (.Compare a [.GtE] [b] pos) (tOp (rGE X.K) ta tb) (xOp geR xa xb) := px_cmp (op_GE hu) rs_GE ha hb (nomark _)
theorem pb_ge (hu : X.A.units < cLine) (ha : PX X a ta xa) (hb : PX X b tb xb) : PB X (.Compare a [.GtE] [b] pos) (tTest (tOp (rGE X.K) ta tb)) (xB (xOp geR xa xb)) := pb_cmp (op_GE hu) rs_GE ha hb (nomark _)
theorem px_eq (hu : X.A.units + 64 < cLine) (ha : PX X a ta xa) (hb : PX X b tb xb) : PX X (.Compare a [.Eq] [b] pos) (tOp (rEQ X.K) ta tb) (xOp (eqR false) xa xb) := px_cmp (op_EQ hu) rs_EQ ha hb (nomark _)
theorem pb_eq (hu : X.A.units + 64 < cLine) (ha : PX X a ta xa) (hb : PX X b tb xb) : PB X (.Compare a [.Eq] [b] pos) (tTest (tOp (rEQ X.K) ta tb)) (xB (xOp (eqR false) xa xb)) := pb_cmp (op_EQ hu) rs_EQ ha hb (nomark _)
theorem px_ne (hu : X.A.units + 64 < cLine) (ha : PX X a ta xa) (hb : PX X b tb xb) : PX X (.Compare a [.NotEq] [b] pos) (tOp (rNE X.K) ta tb) (xOp (eqR true) xa xb) := px_cmp (op_NE hu) rs_NE ha hb (nomark _)
theorem pb_ne (hu : X.A.units + 64 < cLine) (ha : PX X a ta xa) (hb : PX X b tb xb) : PB X (.Compare a [.NotEq] [b] pos) (tTest (tOp (rNE X.K) ta tb)) (xB (xOp (eqR true) xa xb)) := pb_cmp (op_NE hu) rs_NE ha hb (nomark _)
theorem px_is (ha : PX X a ta xa) (hb : PX X b tb xb) : PX X (.Compare a [.Is] [b] pos) (tOp rIS ta tb) (xOp (isX false) xa xb) := px_cmp op_IS rs_IS ha hb (nomark _)
theorem pb_is (ha : PX X a ta xa) (hb : PX X b tb xb) : PB X (.Compare a [.Is] [b] pos) (tTest (tOp rIS ta tb)) (xB (xOp (isX false) xa xb)) := pb_cmp op_IS rs_IS ha hb (nomark _)
theorem px_isn (ha : PX X a ta xa) (hb : PX X b tb xb) : PX X (.Compare a [.IsNot] [b] pos) (tOp rISN ta tb) (xOp (isX true) xa xb) := px_cmp op_ISN rs_ISN ha hb (nomark _)
theorem pb_isn (ha : PX X a ta xa) (hb : PX X b tb xb) : PB X (.Compare a [.IsNot] [b] pos) (tTest (tOp rISN ta tb)) (xB (xOp (isX true) xa xb)) := pb_cmp op_ISN rs_ISN ha hb (nomark _)
/-! in: flat things; data -/
inductive inD (n : Bool) : T → T → T → Prop
  | lst {x : T} {ts : List T} (h1 : x.sure = true) (h2 : T.sures ts = true) (h3 : SeqAt.shaped x.dat = true) (h4 : SeqAt.shaped (T.lst ts).dat = true) : inD n x (.lst ts) (.bl (n ^^ (T.dats ts).any fun z => PyData.eqv z x.dat))
  | tup {x : T} {ts : List T} (h1 : x.sure = true) (h2 : T.sures ts = true) (h3 : SeqAt.shaped x.dat = true) (h4 : SeqAt.shaped (T.lst ts).dat = true) : inD n x (.tup ts) (.bl (n ^^ (T.dats ts).any fun z => PyData.eqv z x.dat))
def rInX (K : PySem.W.Frag) (n : Bool) : R2 := fun x y H Q => ∃ d ds, Dp K H x d ∧ (Dp K H y (.list ds) ∨ Dp K H y (.tuple ds)) ∧ SeqAt.shaped d = true ∧ SeqAt.shaped (.list ds) = true ∧ Q (.bl (n ^^ ds.any fun z => PyData.eqv z d)) H
theorem op_inX (hu : X.A.units + 65 < cLine) : OpR X (compareOp .In) (rInX X.K false) := by
  intro pins s σ H x y v u Q I rx ry h
  obtain ⟨d, ds, hd, he, sd, se, q⟩ := h
  obtain ⟨as, r1⟩ := Dp.reads I d x v hd rx
  rw [Bool.false_xor] at q
  rcases he with he | he
  · obtain ⟨bs, r2⟩ := Dp.reads I (.list ds) y u he ry
    exact SeqAt.in_list_reads r2 r1 (SeqAt.canLay_of_shaped se) (SeqAt.canLay_of_shaped sd) (room_in_shaped sd hu) ⟨.bl _, H, I, rfl, q⟩
  · obtain ⟨bs, r2⟩ := Dp.reads I (.tuple ds) y u he ry
    exact SeqAt.in_tuple_reads r2 r1 (SeqAt.canLay_of_shaped se) (SeqAt.canLay_of_shaped sd) (room_in_shaped sd hu) ⟨.bl _, H, I, rfl, q⟩
theorem op_notInX (hu : X.A.units + 65 < cLine) : OpR X (compareOp .NotIn) (rInX X.K true) := by
  intro pins s σ H x y v u Q I rx ry h
  obtain ⟨d, ds, hd, he, sd, se, q⟩ := h
  obtain ⟨as, r1⟩ := Dp.reads I d x v hd rx
  rw [Bool.true_xor] at q
  rcases he with he | he
  · obtain ⟨bs, r2⟩ := Dp.reads I (.list ds) y u he ry
    exact SeqAt.notIn_list_reads r2 r1 (SeqAt.canLay_of_shaped se) (SeqAt.canLay_of_shaped sd) (room_in_shaped sd hu) ⟨.bl _, H, I, rfl, q⟩
  · obtain ⟨bs, r2⟩ := Dp.reads I (.tuple ds) y u he ry
    exact SeqAt.notIn_tuple_reads r2 r1 (SeqAt.canLay_of_shaped se) (SeqAt.canLay_of_shaped sd) (room_in_shaped sd hu) ⟨.bl _, H, I, rfl, q⟩
theorem rs_inX {K : PySem.W.Frag} {n : Bool} : RS2 K (rInX K n) (inD n) := fun B H v w x y z e d1 d2 hg Q q => by
  cases hg with
  | lst h1 h2 h3 h4 => exact ⟨_, _, d1.dp e h1, .inl (Dn.dp e d2 (show T.sure (.lst _) = true from h2)), h3, h4, q B _ H (Stp.refl e) (.bl _)⟩
  | tup h1 h2 h3 h4 => exact ⟨_, _, d1.dp e h1, .inr (Dn.dp e d2 (show T.sure (.tup _) = true from h2)), h3, h4, q B _ H (Stp.refl e) (.bl _)⟩
/-- in (n false), not in (n true) -/
def inR (n : Bool) : T → T → T → Prop := fun x y z => inF n x y z ∨ inD n x y z
def rIN (K : PySem.W.Frag) : R2 := fun x y H Q => rIn K false x y H Q ∨ rInX K false x y H Q
def rNIN (K : PySem.W.Frag) : R2 := fun x y H Q => rIn K true x y H Q ∨ rInX K true x y H Q
theorem op_IN (hu : X.A.units + 65 < cLine) : OpR X (compareOp .In) (rIN X.K) := OpR.or op_in_seq (op_inX hu)
theorem op_NIN (hu : X.A.units + 65 < cLine) : OpR X (compareOp .NotIn) (rNIN X.K) := OpR.or op_notIn_seq (op_notInX hu)
theorem rs_IN {K : PySem.W.Frag} : RS2 K (rIN K) (inR false) := RS2.or (rs_in false) rs_inX
theorem rs_NIN {K : PySem.W.Frag} : RS2 K (rNIN K) (inR true) := RS2.or (rs_in true) rs_inX
theorem px_in (hu : X.A.units + 65 < cLine) (ha : PX X a ta xa) (hb : PX X b tb xb) (hm : behindInMarks .In b = false := by rfl) : PX X (.Compare a [.In] [b] pos) (tOp (rIN X.K) ta tb) (xOp (inR false) xa xb) := px_cmp (op_IN hu) rs_IN ha hb hm
theorem pb_in (hu : X.A.units + 65 < cLine) (ha : PX X a ta xa) (hb : PX X b tb xb) (hm : behindInMarks .In b = false := by rfl) : PB X (.Compare a [.In] [b] pos) (tTest (tOp (rIN X.K) ta tb)) (xB (xOp (inR false) xa xb)) := pb_cmp (op_IN hu) rs_IN ha hb hm
theorem px_nin (hu : X.A.units + 65 < cLine) (ha : PX X a ta xa) (hb : PX X b tb xb) (hm : behindInMarks .NotIn b = false := by rfl) : PX X (.Compare a [.NotIn] [b] pos) (tOp (rNIN X.K) ta tb) (xOp (inR true) xa xb) := px_cmp (op_NIN hu) rs_NIN ha hb hm
theorem pb_nin (hu : X.A.units + 65 < cLine) (ha : PX X a ta xa) (hb : PX X b tb xb) (hm : behindInMarks .NotIn b = false := by rfl) : PB X (.Compare a [.NotIn] [b] pos) (tTest (tOp (rNIN X.K) ta tb)) (xB (xOp (inR true) xa xb)) := pb_cmp (op_NIN hu) rs_NIN ha hb hm
/-! built-ins -/
theorem px_len (hm : X.mg "len" = none) (ha : PX X e te x) (hg : Gl X "len" := by rfl) (he : starEach [e] X.env = (false, eval e X.env) :: starEach [] X.env := by rfl) (hpl : (backTo pos (starEach [] X.env)).any (·.1) = false := by rfl) :
    PX X (.Call (.Name "len" p) [e] [] pos) (tCB (fun xs H Q => ∃ p ys, xs = [.ref p] ∧ (SqL X.K H p ys ∨ SqT X.K H p ys) ∧ Q (.int ys.length) H) (tCons te tNil)) (xCB lenR (xCons x xNil)) := px_callB call_len_seq rs_len hg hm PySem.boot_len (px_cons ha px_nil he) (by decide) (by decide) he hpl
theorem px_tuple (hm : X.mg "tuple" = none) (ha : PX X e te x) (hg : Gl X "tuple" := by rfl) (he : starEach [e] X.env = (false, eval e X.env) :: starEach [] X.env := by rfl) (hpl : (backTo pos (starEach [] X.env)).any (·.1) = false := by rfl) :
    PX X (.Call (.Name "tuple" p) [e] [] pos) (tCB (fun xs H Q => ∃ p ys, xs = [.ref p] ∧ ((SqL X.K H p ys ∧ ∀ l, H l = none → Q (.ref l) (upd H l (.tup ys))) ∨ (SqT X.K H p ys ∧ Q (.ref p) H))) (tCons te tNil)) (xCB tupR (xCons x xNil)) := px_callTy call_tuple_of rs_tuple hg hm (by decide +kernel) (px_cons ha px_nil he) (by decide) (by decide) he hpl
theorem pn_list (hm : X.mg "list" = none) (ha : PX X e te x) (hg : Gl X "list" := by rfl) (he : starEach [e] X.env = (false, eval e X.env) :: starEach [] X.env := by rfl) (hpl : (backTo pos (starEach [] X.env)).any (·.1) = false := by rfl) :
    PN X (.Call (.Name "list" p) [e] [] pos) (tCB (fun xs H Q => ∃ p ys, xs = [.ref p] ∧ (SqL X.K H p ys ∨ SqT X.K H p ys) ∧ ∀ l, H l = none → Q (.ref l) (upd H l (.lst ys))) (tCons te tNil)) (xCN listR (xCons x xNil)) := pn_callTy call_list_of rs_list hg hm (by decide +kernel) (px_cons ha px_nil he) (by decide) (by decide) he hpl
theorem px_intc (hm : X.mg "int" = none) (ha : PX X e te x) (hg : Gl X "int" := by rfl) (he : starEach [e] X.env = (false, eval e X.env) :: starEach [] X.env := by rfl) (hpl : (backTo pos (starEach [] X.env)).any (·.1) = false := by rfl) :
    PX X (.Call (.Name "int" p) [e] [] pos) (tCB (fun xs H Q => (∃ i, xs = [.int i] ∧ Q (.int i) H) ∨ ∃ k, xs = [.bl k] ∧ Q (.int (if k then 1 else 0)) H) (tCons te tNil)) (xCB intCR (xCons x xNil)) := px_callTy call_int1 rs_int hg hm (by decide +kernel) (px_cons ha px_nil he) (by decide) (by decide) he hpl
theorem px_strc (hm : X.mg "str" = none) (ha : PX X e te x) (hg : Gl X "str" := by rfl) (he : starEach [e] X.env = (false, eval e X.env) :: starEach [] X.env := by rfl) (hpl : (backTo pos (starEach [] X.env)).any (·.1) = false := by rfl) :
    PX X (.Call (.Name "str" p) [e] [] pos) (tCB (fun xs H Q => ∃ i, xs = [.int i] ∧ i.natAbs.log2 < 1920 ∧ Q (.str (toString i)) H) (tCons te tNil)) (xCB strCR (xCons x xNil)) := px_callTy call_str_int rs_str hg hm (by decide +kernel) (px_cons ha px_nil he) (by decide) (by decide) he hpl
theorem pn_sorted (hm : X.mg "sorted" = none) (ha : PX X e te x) (hg : Gl X "sorted" := by rfl) (he : starEach [e] X.env = (false, eval e X.env) :: starEach [] X.env := by rfl) (hpl : (backTo pos (starEach [] X.env)).any (·.1) = false := by rfl) :
    PN X (.Call (.Name "sorted" p) [e] [] pos) (tCB (rSortedI X.K) (tCons te tNil)) (xCN sortR (xCons x xNil)) := pn_callB cr_sortedI rs_sorted hg hm (by decide +kernel) (px_cons ha px_nil he) (by decide) (by decide) he hpl
end
end TL

/-! the same rules, the written part named (within a comprehension's block) -/
namespace TL
open PySem PySem.Spec PyProof.Rows L2
section
variable {X : Cx} {K : PySem.W.Frag} {a b c e : Expr} {es : List Expr} {ta tb tc te : TE} {xa xb xc x : XE} {tA : TA} {xs : XA} {pos p p2 : Pos} {lo hi : Option Expr} {tl th : TO} {xl xh : XO}
theorem px_ixk (ha : PX X a ta xa) (hb : PX X b tb xb) (hs : PlainIx b := by exact fun _ _ => rfl) (hK : X.K = K := by rfl) : PX X (.Subscript a b pos) (tOp (rIx K) ta tb) (xOp ixR xa xb) := by subst hK; exact px_ix ha hb hs
theorem px_slk (he : PX X e te x) (hl : POX X lo tl xl) (hh : POX X hi th xh) (hK : X.K = K := by rfl) : PX X (.Subscript e (.Slice lo hi none p2) pos) (tSl (rSlU K) te tl th) (xSl slR x xl xh) := by subst hK; exact px_sl he hl hh
theorem px_isik {n : String} {y : Str} (hm : X.mg "isinstance" = none) (ha : PX X a ta xa) (hm2 : X.mg y = none) (hg : Gl X "isinstance") (hg2 : Gl X y) (hv : bootBuiltins y = some (.type n))
    (hn : y ≠ "__name__" := by decide) (hd : (y == ("__debug__" : Str)) = false := by decide)
    (h1 : starEach [a, .Name y p2] X.env = (false, eval a X.env) :: starEach [.Name y p2] X.env := by rfl) (h2 : starEach [.Name y p2] X.env = (false, eval (.Name y p2) X.env) :: starEach [] X.env := by rfl) (h3 : (backTo pos (starEach [.Name y p2] X.env)).any (·.1) = false := by rfl) (hK : X.K = K := by rfl) :
    PX X (.Call (.Name "isinstance" p) [a, .Name y p2] [] pos) (tCB (rIsi K) (tCons ta (tCons (tC (.ty n)) tNil))) (xIsi n xa) := by subst hK; exact px_isi hm ha hm2 hg hg2 hv hn hd h1 h2 h3
theorem px_callk {k : Nat} {x : Str} {ps : List Str} {P : XF} (C : Cal X.prog X.w K X.mg X.base k x ps (spP K P)) (hr : Room k X.A) (hg : Gl X x) (ha : PAX X (e :: es) tA xs) (hdb : (x == ("__debug__" : Str)) = false := by decide)
    (he : starEach (e :: es) X.env = (false, eval e X.env) :: starEach es X.env := by rfl) (hpl : (backTo pos (starEach es X.env)).any (·.1) = false := by rfl) (hK : X.K = K := by rfl) : PX X (.Call (.Name x p) (e :: es) [] pos) (tCall (spP K P) [] E0 tA) (xCall P xs) := by subst hK; exact px_call C hr hg ha hdb he hpl
theorem pix_seqk {tg : Expr} (h : PX X e te x) (hK : X.K = K := by rfl) : PIX X tg e (iSeq K te) (xiL x) := by subst hK; exact pix_seq h
theorem px_lenOk {i : Nat} (hm : X.mg "len" = none) (ho : PE X a (tVar i)) (hg : Gl X "len" := by rfl) (he : starEach [a] X.env = (false, eval a X.env) :: starEach [] X.env := by rfl) (hpl : (backTo pos (starEach [] X.env)).any (·.1) = false := by rfl) (hK : X.K = K := by rfl) : PX X (.Call (.Name "len" p) [a] [] pos) (tCB (fun xs H Q => ∃ p ys, xs = [.ref p] ∧ (SqL K H p ys ∨ SqT K H p ys) ∧ Q (.int ys.length) H) (tCons (tVar i) tNil)) (xLenO i) := by subst hK; exact px_lenO hm ho hg he hpl
theorem px_ixOk {i : Nat} (ho : PE X a (tVar i)) (hb : PX X b te x) (hs : PlainIx b := by exact fun _ _ => rfl) (hK : X.K = K := by rfl) : PX X (.Subscript a b pos) (tOp (rIx K) (tVar i) te) (xIxO i x) := by subst hK; exact px_ixO ho hb hs
theorem px_addk (ha : PX X a ta xa) (hb : PX X b tb xb) (hK : X.K = K := by rfl) : PX X (.BinOp a .Add b pos) (tOp (rADD K) ta tb) (xOp addR xa xb) := by subst hK; exact px_add ha hb
theorem px_lek (hu : X.A.units < cLine) (ha : PX X a ta xa) (hb : PX X b tb xb) (hK : X.K = K := by rfl) : PX X (.Compare a [.LtE] [b] pos) (tOp (rLE K) ta tb) (xOp leR xa xb) := by subst hK; exact px_le hu ha hb
theorem pb_lek (hu : X.A.units < cLine) (ha : PX X a ta xa) (hb : PX X b tb xb) (hK : X.K = K := by rfl) : PB X (.Compare a [.LtE] [b] pos) (tTest (tOp (rLE K) ta tb)) (xB (xOp leR xa xb)) := by subst hK; exact pb_le hu ha hb
theorem px_gek (hu : X.A.units < cLine) (ha : PX X a ta xa) (hb : PX X b tb xb) (hK : X.K = K := by rfl) : PX X (.Compare a [.GtE] [b] pos) (tOp (rGE K) ta tb) (xOp geR xa xb) := by subst hK; exact px_ge hu ha hb
theorem pb_gek (hu : X.A.units < cLine) (ha : PX X a ta xa) (hb : PX X b tb xb) (hK : X.K = K := by rfl) : PB X (.Compare a [.GtE] [b] pos) (tTest (tOp (rGE K) ta tb)) (xB (xOp geR xa xb)) := by subst hK; exact pb_ge hu ha hb
theorem px_eqk (hu : X.A.units + 64 < cLine) (ha : PX X a ta xa) (hb : PX X b tb xb) (hK : X.K = K := by rfl) : PX X (.Compare a [.Eq] [b] pos) (tOp (rEQ K) ta tb) (xOp (eqR false) xa xb) := by subst hK; exact px_eq hu ha hb
theorem pb_eqk (hu : X.A.units + 64 < cLine) (ha : PX X a ta xa) (hb : PX X b tb xb) (hK : X.K = K := by rfl) : PB X (.Compare a [.Eq] [b] pos) (tTest (tOp (rEQ K) ta tb)) (xB (xOp (eqR false) xa xb)) := by subst hK; exact pb_eq hu ha hb
theorem px_nek (hu : X.A.units + 64 < cLine) (ha : PX X a ta xa) (hb : PX X b tb xb) (hK : X.K = K := by rfl) : PX X (.Compare a [.NotEq] [b] pos) (tOp (rNE K) ta tb) (xOp (eqR true) xa xb) := by subst hK; exact px_ne hu ha hb
theorem pb_nek (hu : X.A.units + 64 < cLine) (ha : PX X a ta xa) (hb : PX X b tb xb) (hK : X.K = K := by rfl) : PB X (.Compare a [.NotEq] [b] pos) (tTest (tOp (rNE K) ta tb)) (xB (xOp (eqR true) xa xb)) := by subst hK; exact pb_ne hu ha hb
theorem px_ink (hu : X.A.units + 65 < cLine) (ha : PX X a ta xa) (hb : PX X b tb xb) (hm : behindInMarks .In b = false := by rfl) (hK : X.K = K := by rfl) : PX X (.Compare a [.In] [b] pos) (tOp (rIN K) ta tb) (xOp (inR false) xa xb) := by subst hK; exact px_in hu ha hb hm
theorem pb_ink (hu : X.A.units + 65 < cLine) (ha : PX X a ta xa) (hb : PX X b tb xb) (hm : behindInMarks .In b = false := by rfl) (hK : X.K = K := by rfl) : PB X (.Compare a [.In] [b] pos) (tTest (tOp (rIN K) ta tb)) (xB (xOp (inR false) xa xb)) := by subst hK; exact pb_in hu ha hb hm
theorem px_nink (hu : X.A.units + 65 < cLine) (ha : PX X a ta xa) (hb : PX X b tb xb) (hm : behindInMarks .NotIn b = false := by rfl) (hK : X.K = K := by rfl) : PX X (.Compare a [.NotIn] [b] pos) (tOp (rNIN K) ta tb) (xOp (inR true) xa xb) := by subst hK; exact px_nin hu ha hb hm
theorem pb_nink (hu : X.A.units + 65 < cLine) (ha : PX X a ta xa) (hb : PX X b tb xb) (hm : behindInMarks .NotIn b = false := by rfl) (hK : X.K = K := by rfl) : PB X (.Compare a [.NotIn] [b] pos) (tTest (tOp (rNIN K) ta tb)) (xB (xOp (inR true) xa xb)) := by subst hK; exact pb_nin hu ha hb hm
theorem px_lenk (hm : X.mg "len" = none) (ha : PX X e te x) (hg : Gl X "len" := by rfl) (he : starEach [e] X.env = (false, eval e X.env) :: starEach [] X.env := by rfl) (hpl : (backTo pos (starEach [] X.env)).any (·.1) = false := by rfl) (hK : X.K = K := by rfl) :
    PX X (.Call (.Name "len" p) [e] [] pos) (tCB (fun xs H Q => ∃ p ys, xs = [.ref p] ∧ (SqL K H p ys ∨ SqT K H p ys) ∧ Q (.int ys.length) H) (tCons te tNil)) (xCB lenR (xCons x xNil)) := by subst hK; exact px_len hm ha hg he hpl
theorem px_tuplek (hm : X.mg "tuple" = none) (ha : PX X e te x) (hg : Gl X "tuple" := by rfl) (he : starEach [e] X.env = (false, eval e X.env) :: starEach [] X.env := by rfl) (hpl : (backTo pos (starEach [] X.env)).any (·.1) = false := by rfl) (hK : X.K = K := by rfl) :
    PX X (.Call (.Name "tuple" p) [e] [] pos) (tCB (fun xs H Q => ∃ p ys, xs = [.ref p] ∧ ((SqL K H p ys ∧ ∀ l, H l = none → Q (.ref l) (upd H l (.tup ys))) ∨ (SqT K H p ys ∧ Q (.ref p) H))) (tCons te tNil)) (xCB tupR (xCons x xNil)) := by subst hK; exact px_tuple hm ha hg he hpl
theorem pn_listk (hm : X.mg "list" = none) (ha : PX X e te x) (hg : Gl X "list" := by rfl) (he : starEach [e] X.env = (false, eval e X.env) :: starEach [] X.env := by rfl) (hpl : (backTo pos (starEach [] X.env)).any (·.1) = false := by rfl) (hK : X.K = K := by rfl) :
    PN X (.Call (.Name "list" p) [e] [] pos) (tCB (fun xs H Q => ∃ p ys, xs = [.ref p] ∧ (SqL K H p ys ∨ SqT K H p ys) ∧ ∀ l, H l = none → Q (.ref l) (upd H l (.lst ys))) (tCons te tNil)) (xCN listR (xCons x xNil)) := by subst hK; exact pn_list hm ha hg he hpl
theorem pn_sortedk (hm : X.mg "sorted" = none) (ha : PX X e te x) (hg : Gl X "sorted" := by rfl) (he : starEach [e] X.env = (false, eval e X.env) :: starEach [] X.env := by rfl) (hpl : (backTo pos (starEach [] X.env)).any (·.1) = false := by rfl) (hK : X.K = K := by rfl) :
    PN X (.Call (.Name "sorted" p) [e] [] pos) (tCB (rSortedI K) (tCons te tNil)) (xCN sortR (xCons x xNil)) := by subst hK; exact pn_sorted hm ha hg he hpl
theorem pb_truk (ha : PX X a ta xa) (he : ∀ whole, isTrue a X.env whole = (do let v ← whole; standAt a.pos; holding [v] (truthy v)) := by intro _; rfl) (hK : X.K = K := by rfl) :
    PB X a (fun σ H Q => ta σ H fun x H' => ∃ k, TruV K x H' k ∧ Q k H') (xTru xa) := by subst hK; exact pb_tru ha he
end
end TL

/-! t[::-1] of a tuple -/
namespace TL
open PySem PySem.Spec PyProof.Rows L2
section
variable {prog : Program} {w : World} {A : Around} {E : Value → Shared → Prop} {s : Shared}
theorem adjust_rev (n : Nat) : Builtin.Slice.sliceAdjust none none (-1) (n : Int) = ((n : Int) - 1, -1) := by
  unfold Builtin.Slice.sliceAdjust
  simp
theorem places_rev (n : Nat) : Builtin.Slice.slicePlaces ((n : Int) - 1) (-1) (-1) = n := by
  unfold Builtin.Slice.slicePlaces
  have h1 : ¬ ((-1 : Int) > 0) := by omega
  simp only [h1, if_false]
  by_cases h : (n : Int) - 1 > -1
  · rw [if_pos h]
    have e : (-1 - ((n : Int) - 1) + 1) / -1 + 1 = (n : Int) ∨ True := .inr trivial
    first
      | (have e : ((n : Int) - 1 - -1 - 1) / (- -1) + 1 = (n : Int) := by
          rw [show (- -1 : Int) = 1 by decide, Int.ediv_one]; omega
         rw [e]; simp)
      | (simp; omega)
  · rw [if_neg h]
    omega
theorem sliceApplied_rev {sl : Addr} {vl vu vs : Value} {n : Nat} {Q : Int × Int × Nat → Shared → Prop} (hs : s.heap.IsSliceOf sl vl vu vs) (pl : IsPart vl none) (pu : IsPart vu none) (ps : IsPart vs (some (-1)))
    (h : Q ((n : Int) - 1, -1, n) s) : wpAny (model prog w) A (Builtin.Slice.sliceApplied (.ref sl) (pure (n : Int))) Q E s := by
  obtain ⟨os, hos, hcs, hds⟩ := id hs
  unfold Builtin.Slice.sliceApplied Builtin.Slice.sliceFields
  refine wpAny_bind (wpAny_bind (wpAny_field hos hds (x := vl) rfl (wpAny_bind (wpAny_field hos hds (x := vu) rfl (wpAny_bind (wpAny_field hos hds (x := vs) rfl (wpAny_pure ?_)))))))
  refine wpAny_bind (HT.slicePart_ ps ?_)
  show wpAny _ _ (if ((-1 : Int) == 0) = true then _ else _) _ _ s
  rw [if_neg (by decide)]
  refine wpAny_bind (HT.slicePart_ pl (wpAny_bind (HT.slicePart_ pu (wpAny_bind (wpAny_pure ?_)))))
  show wpAny _ _ (match Builtin.Slice.sliceAdjust none none (-1) (n : Int) with | (lo, hi) => pure (lo, (-1 : Int), Builtin.Slice.slicePlaces lo hi (-1))) _ _ s
  rw [adjust_rev n]
  show wpAny _ _ (pure (((n : Int) - 1), (-1 : Int), Builtin.Slice.slicePlaces ((n : Int) - 1) (-1) (-1))) _ _ s
  rw [places_rev]
  exact wpAny_pure h
theorem pick_rev (xs : Array Value) : ((List.range xs.size).filterMap fun (m : Nat) => xs[(((xs.size : Int) - 1) + (m : Int) * (-1)).toNat]?).toArray = xs.toList.reverse.toArray := by
  have e : (fun (m : Nat) => xs[(((xs.size : Int) - 1) + (m : Int) * (-1)).toNat]?) = fun m => xs[(xs.size - 1 - m)]? := by
    funext m
    have : (((xs.size : Int) - 1) + (m : Int) * (-1)).toNat = xs.size - 1 - m := by omega
    rw [this]
  rw [e]
  have e2 : (List.range xs.size).filterMap (fun m => xs[(xs.size - 1 - m)]?) = ((List.range xs.size).map fun m => xs.size - 1 - m).filterMap (xs[·]?) := by
    rw [List.filterMap_map]
    rfl
  rw [e2, PySem.W.krv_range, List.filterMap_reverse, PySem.W.krv_all]
theorem getItem_tuple_rev {t sl : Addr} {items : Array Value} {vl vu vs : Value} {Q : Value → Shared → Prop} (ht : IsTup s.heap t items) (hs : s.heap.IsSliceOf sl vl vu vs) (pl : IsPart vl none) (pu : IsPart vu none) (ps : IsPart vs (some (-1)))
    (h : Q (.ref s.heap.objs.size) { s with heap := s.heap.push { cls := .type "tuple", data := .seq items.toList.reverse.toArray } })
    (hsz : items.size ≤ sizeLine) : wpAny (model prog w) A (getItem (.ref t) (.ref sl)) Q E s := by
  have htake : sizeOk (.seq items.toList.reverse.toArray) := by
    show items.toList.reverse.toArray.size ≤ sizeLine
    rw [List.size_toArray, List.length_reverse, Array.length_toList]
    exact hsz
  obtain ⟨os, hos, hcs, hds⟩ := id hs
  have hTs : s.TypeIs (.ref sl) "slice" := ⟨os, hos, hcs⟩
  unfold getItem
  try with_reducible refine wpAny_holding ?_
  first | refine wpAny_bind (wpAny_pure ?_) | skip
  refine wpAny_bind (wpAny_sequenceKey ht.typeIs (by decide) ?_)
  refine wpAny_bind (wpAny_callSpecial?_slot (name := Str.ofString "__getitem__") ht.typeIs PyProof.Rows.slot_tuple_getitem
    (wpAny_call_entry PyProof.Rows.slot_tuple_getitem ht.typeIs entry_tuple_getitem ?_ (args_tuple_getitem _ _)))
  show wpAny _ _ (Builtin.Tuple.tupleItemsOf (.ref t) >>= _) _ _ s
  refine wpAny_bind (tupleItemsOf_ ht ?_)
  refine wpAny_bind (wpAny_typeOf hTs ?_)
  rw [if_pos (by decide)]
  refine wpAny_bind (sliceApplied_rev hs pl pu ps ?_)
  have hno : ¬ ((((items.size : Int) - 1) == 0 && (-1 : Int) == 1 && items.size == items.size) = true) := by
    intro q
    rw [Bool.and_eq_true, Bool.and_eq_true] at q
    exact absurd q.1.2 (by decide)
  show wpAny _ _ (if (((items.size : Int) - 1) == 0 && (-1 : Int) == 1 && items.size == items.size) = true then _ else _) _ _ s
  rw [if_neg hno, pick_rev]
  first
    | exact wpAny_bind (m := Builtin.Tuple.tupleExact _) (wpAny_newObj_type (wpAny_pure ⟨_, rfl, wpAny_pure h⟩) htake)
    | exact wpAny_bind (m := Builtin.Tuple.tupleExact _) (wpAny_newObj_type (wpAny_bind (wpAny_pure (wpAny_pure ⟨_, rfl, wpAny_pure h⟩))) htake)
end
def tRevX (K : PySem.W.Frag) (te : TE) : TE := fun σ H Q => te σ H fun x H1 => ∃ a xs, x = .ref a ∧ ((SqL K H1 a xs ∧ ∀ p, H1 p = none → Q (.ref p) (upd H1 p (.lst xs.reverse))) ∨ (SqT K H1 a xs ∧ ∀ p, H1 p = none → Q (.ref p) (upd H1 p (.tup xs.reverse))))
theorem pe_revX {X : Cx} {e : Expr} {te : TE} {k : Nat} {p1 p2 p3 pos : Pos} (he : PE X e te) : PE X (.Subscript e (.Slice none none (some (.UnaryOp .USub (.Constant (.int 1) k p1) p2)) p3) pos) (tRevX X.K te) := by
  refine ⟨fun pins s σ H Q I h => ?_⟩
  refine Subscript_ (thn (he.run pins s σ H _ I h) fun v s1 ⟨x, H1, I1, r1, q1⟩ => ?_)
  obtain ⟨a, xs, ex, hxq⟩ := q1
  subst ex
  cases r1
  have hst : PO X (some (.UnaryOp .USub (.Constant (.int 1) k p1) p2)) (tPart (tUn (rU fun i => .int (-i)) (tC (.int 1)))) := po_some (pe_un un_neg pe_int)
  refine wpAny_Slice (thn (po_none.run pins s1 σ H1 (fun o H2 => o = none ∧ H2 = H1) I1 ⟨rfl, rfl⟩) fun vl s2 ⟨l, H2, I2, pl, el, e2⟩ => ?_)
  subst el e2
  refine thn (po_none.run pins s2 σ H2 (fun o H3 => o = none ∧ H3 = H2) I2 ⟨rfl, rfl⟩) fun vu s3 ⟨u, H3, I3, pu, eu, e3⟩ => ?_
  subst eu e3
  refine thn (hst.run pins s3 σ H3 (fun o H4 => o = some (-1) ∧ H4 = H3) I3 ⟨1, rfl, -1, rfl, rfl, rfl⟩) fun vs s4 ⟨o, H4, I4, ps, eo, e4⟩ => ?_
  subst eo e4
  have I5 : Inv X pins σ H4 { s4 with heap := s4.heap.push { cls := .type "slice", data := .fields #[vl, vu, vs] } } := I4.kept (t' := s4.toks) fun b ob q => Heap.get?_push_of_some _ q
  show wpAny (model X.prog X.w) X.A (subscriptTail e (.Slice none none (some (.UnaryOp .USub (.Constant (.int 1) k p1) p2)) p3) (.ref a) (.ref s4.heap.objs.size)) (EP X pins σ Q) X.xe { s4 with heap := s4.heap.push { cls := .type "slice", data := .fields #[vl, vu, vs] } }
  rcases hxq with ⟨hx, q⟩ | ⟨hx, q⟩
  · obtain ⟨its, r, ht, hz⟩ := I5.list hx
    have hlen := r.length
    refine tail_any (ops := [.ref a, .ref s4.heap.objs.size]) ht.isList.typeIs (PySem.slot_list_getitem.lookup) ?_ (by with_unfolding_all rfl)
    refine wpAny_getItem_list_slice ht.isList (Heap.IsSliceOf.new _ vl vu vs) pl pu ps (by decide) ?_ (by rw [List.size_toArray]; omega)
    rw [PySem.W.krv_pick]
    refine ⟨.ref _, _, I5.laid (t' := s4.toks) (o := .lst xs.reverse) (fun b ob q => Heap.get?_push_of_some _ q) (Nat.le_refl _) ?_, rfl, q _ (I5.hok.fresh (Nat.le_refl _))⟩
    exact ⟨by rw [List.length_reverse]; exact hz, _, 0, r.reverse, Heap.get?_push_size _ rfl⟩
  · obtain ⟨its, r, ht, hz⟩ := I5.tuple hx
    have hlen := r.length
    refine tail_any (ops := [.ref a, .ref s4.heap.objs.size]) ht.typeIs (PyProof.Rows.slot_tuple_getitem.lookup) ?_ (by with_unfolding_all rfl)
    refine getItem_tuple_rev ht (Heap.IsSliceOf.new _ vl vu vs) pl pu ps ?_ (by rw [List.size_toArray]; omega)
    refine ⟨.ref _, _, I5.laid (t' := s4.toks) (o := .tup xs.reverse) (fun b ob q => Heap.get?_push_of_some _ q) (Nat.le_refl _) ?_, rfl, q _ (I5.hok.fresh (Nat.le_refl _))⟩
    exact ⟨by rw [List.length_reverse]; exact hz, _, r.reverse, IsTup.new _ _⟩
def xRev (x : XE) : XE := fun st k => x st fun t s1 => match t with
  | .lst ts => k (.lst ts.reverse) s1
  | .tup ts => k (.tup ts.reverse) s1
  | _ => False
theorem px_rev {X : Cx} {e : Expr} {te : TE} {x : XE} {k : Nat} {p1 p2 p3 pos : Pos} (he : PX X e te x) : PX X (.Subscript e (.Slice none none (some (.UnaryOp .USub (.Constant (.int 1) k p1) p2)) p3) pos) (tRevX X.K te) (xRev x) :=
  ⟨pe_revX he.pe, fun Z z st k hk B σ H r Q q => he.sn Z z st _ hk B σ H r _ fun B1 v t s1 H1 h1 r1 e1 d1 => by
    rw [← z]
    cases d1 with
    | @lst a vs ts hl s =>
      refine ⟨a, vs, rfl, .inl ⟨SqL.of (r1.bk _ _ hl), fun p hp => ?_⟩⟩
      have st := Stp.new (o := .lst vs.reverse) r1.bk hp
      exact q _ _ _ s1 _ h1 (r1.stp st) (e1.trans st.bb) (.lst upd_same (Dns.mono st.bb s.rev))
    | @tup a vs ts hl s =>
      refine ⟨a, vs, rfl, .inr ⟨SqT.of (r1.bk _ _ hl), fun p hp => ?_⟩⟩
      have st := Stp.new (o := .tup vs.reverse) r1.bk hp
      exact q _ _ _ s1 _ h1 (r1.stp st) (e1.trans st.bb) (.tup upd_same (Dns.mono st.bb s.rev))
    | _ => exact (show False from h1).elim⟩
end TL

/-! sorted of a tuple of ints, of a dict with int keys, of a list of tuples of ints -/
namespace TL
open PySem PySem.Spec PyProof.Rows L2 SrtO
section
variable {prog : Program} {w : World} {A : Around} {E : Value → Shared → Prop} {s : Shared}
theorem collect_tuple {l : Addr} {vs : List Value} {Q : List Value → Shared → Prop} (hl : IsTup s.heap l vs.toArray)
    (h : Q vs { s with heap := (s.heap.push (seqObj "list" #[] 0)).update s.heap.objs.size (Obj.mapSeq (· ++ vs.toArray)) }) (hsz : vs.length ≤ sizeLine) :
    wpAny (model prog w) A (collect (.ref l)) Q E s := by
  obtain ⟨o, ho, hc, n, hd⟩ := id hl
  unfold collect
  refine wpAny_bind (wpAny_runValue (codeAny_builtin entry_proto_collect' ?_))
  show wpAny _ _ (do again (.builtin "list.__iadd__" ⟨[← newList [], .ref l], []⟩)) _ _ s
  refine wpAny_bind (wpAny_newList (wpAny_pure ⟨Code.quiet_builtin _ (by decide +kernel), codeAny_builtin entry_list_iadd' ?_⟩))
  show wpAny _ _ (Builtin.List.listExtendWith (.ref s.heap.objs.size) (.ref l) (.ref s.heap.objs.size)) _ _ { s with heap := s.heap.push (seqObj "list" #[] 0) }
  unfold Builtin.List.listExtendWith
  have ho' : (s.heap.push (seqObj "list" #[] 0)).get? l = some o := Heap.get?_push_of_some _ ho
  refine wpAny_bind (wpAny_typeOf (T := "tuple") ⟨o, ho', hc⟩ ?_)
  have ht : (Value.type "tuple" == Value.type "tuple") = true := by rfl
  rw [if_pos (by rw [ht]; simp)]
  refine wpAny_bind (listItems_at ho' hd ?_)
  refine wpAny_bind (listItems_at (xs := #[]) (n := 0) (Heap.get?_push_size _ rfl) rfl ?_)
  rw [if_neg (by simp)]
  refine wpAny_bind (listUpdate_at (xs := #[]) (n := 0) (Heap.get?_push_size _ rfl) rfl ?_ (Nat.zero_le _) (by show (#[] ++ vs.toArray).size ≤ sizeLine + 1; simp only [Array.size_append, List.size_toArray, List.length_nil]; omega))
  refine wpAny_pure ?_
  show wpAny (model prog w) A (do
      let o ← load s.heap.objs.size
      match o.data with
      | .seq xs _ => pure xs.toList
      | _ => unsupported "internal:collect") Q E { s with heap := (s.heap.push (seqObj "list" #[] 0)).update s.heap.objs.size (Obj.mapSeq (· ++ vs.toArray)) }
  refine wpAny_bind (wpAny_load (get?_update_seq (Heap.get?_push_size _ rfl) _) ?_)
  show wpAny _ _ (pure ((#[] : Array Value) ++ vs.toArray).toList) Q E _
  rw [show ((#[] : Array Value) ++ vs.toArray).toList = vs by simp]
  exact wpAny_pure h
/-- sorted(v), told by what is collected of v -/
theorem sorted_of {v : Value} {ltv : Value → Value → Bool} {G : List Value → Prop} {Q : Value → Shared → Prop} (O : Swo ltv) (hz : ∀ vs, G vs → vs.length ≤ sizeLine)
    (coll : ∀ R : List Value → Shared → Prop, (∀ vs h' tk, G vs → (∀ b o, s.heap.get? b = some o → h'.get? b = some o) → R vs { s with heap := h', toks := tk }) → wpAny (model prog w) A.in1 (collect v) R E s)
    (hS : ∀ vs, G vs → 2 ≤ vs.length → ∀ (h₁ : Heap) (tk : Nat) (a : Addr), h₁.get? a = some (seqObj "list" vs.toArray 0) → (∀ b o, s.heap.get? b = some o → b ≠ a ∧ h₁.get? b = some o) → SortableO prog w A.in1.in1 { s with heap := h₁, toks := tk } a vs ltv)
    (h : ∀ (vs out : List Value) (h1 h' : Heap) (tk : Nat) (p : Addr) (n : Nat), G vs → Srtd ltv out → Stb ltv out vs → (∀ b o, s.heap.get? b = some o → h1.get? b = some o) → (∀ b o, h1.get? b = some o → h'.get? b = some o) → h1.objs.size ≤ p → h'.get? p = some (seqObj "list" out.toArray n) → Q (.ref p) { s with heap := h', toks := tk }) :
    wpAny (model prog w) A (call (.builtin "sorted") [v]) Q E s := by
  refine Calls.call_function_entry kind_sorted plain_sorted entry_sorted (args_sorted1 _) ?_
  unfold Builtin.«sorted»
  refine wpAny_bind (m := checkCount "sorted" 1 1 _) (wpAny_pure ?_)
  refine wpAny_bind (coll _ fun vs h1 tk g k1 => ?_)
  refine wpAny_bind (wpAny_newList ?_ (hz vs g))
  have hoL : (h1.push (seqObj "list" vs.toArray 0)).get? h1.objs.size = some (seqObj "list" vs.toArray 0) := Heap.get?_push_size _ rfl
  have keep : ∀ b o, s.heap.get? b = some o → b ≠ h1.objs.size ∧ (h1.push (seqObj "list" vs.toArray 0)).get? b = some o := fun b o q => ⟨Nat.ne_of_lt (Heap.lt_size (k1 b o q)), Heap.get?_push_of_some _ (k1 b o q)⟩
  show wpAny _ _ _ _ _ { s with heap := h1.push (seqObj "list" vs.toArray 0), toks := tk }
  refine wpAny_bind (wpAny_holding (wpAny_call_entry slot_list_sort ⟨_, hoL, rfl⟩ entry_list_sort (list_sort_ord (s := { s with heap := h1.push (seqObj "list" vs.toArray 0), toks := tk }) O hoL (hz vs g) (fun h2 => hS vs g h2 _ _ _ hoL keep) fun out hs hb => ⟨_, rfl, ?_⟩) (args_list_sort _)))
  obtain ⟨n, he⟩ := PyProof.Rows.sortedHeap_at (vs := vs) (out := out.toArray) hoL
  refine wpAny_pure ⟨_, rfl, h vs out h1 _ tk h1.objs.size n g hs hb k1 (fun b o q => ?_) (Nat.le_refl _) he⟩
  have hb := Heap.lt_size q
  rw [PyProof.Rows.sortedHeap_old (Nat.ne_of_lt hb) (by rw [size_push']; exact Nat.lt_succ_of_lt hb)]
  exact Heap.get?_push_of_some _ q
/-- the kind of a list of tuples whose first is empty -/
theorem tups_firsts {M : Model} : ∀ (vs : List Value) {Q : List (Option Value) → Shared → Prop}, (∀ v ∈ vs, ∃ a its, v = .ref a ∧ IsTup s.heap a its) →
    (∀ fs : List (Option Value), fs.length = vs.length → (∀ v r a, vs = v :: r → v = .ref a → IsTup s.heap a #[] → fs[0]? = some none) → Q fs s) → wpAny M A (vs.mapM firstOfTuple') Q E s
  | [], Q, _, h => by
    rw [List.mapM_nil]
    exact wpAny_pure (h [] rfl fun v r a e => by cases e)
  | v :: vs, Q, t, h => by
    obtain ⟨a, its, rfl, ht⟩ := t v List.mem_cons_self
    obtain ⟨o, ho, hc, n, hd⟩ := id ht
    rw [List.mapM_cons]
    refine wpAny_bind ?_
    rw [PySem.W.kas_first_eq]
    refine wpAny_bind (PySem.W.Looks.here (show PySem.W.Looks M s.heap (typeOf (.ref a)) o.cls from (PySem.W.Looks.ld ho).andThen .now) ?_)
    rw [hc, if_neg (by first | decide | simp)]
    refine wpAny_bind (listItems_at ho hd (wpAny_pure ?_))
    refine wpAny_bind (tups_firsts vs (Q := fun bs s' => wpAny M A (pure (its[0]? :: bs)) Q E s') (fun v hv => t v (List.mem_cons_of_mem _ hv)) fun fs hl _ => wpAny_pure (h _ (by simp [hl]) fun v r b e1 e2 e3 => ?_))
    cases e1
    cases e2
    obtain ⟨o', ho', _, n', hd'⟩ := id e3
    rw [ho] at ho'
    cases ho'
    rw [hd] at hd'
    cases hd'
    rfl
theorem tups_kind {M : Model} {vs : List Value} {a : Addr} {Q : SortKind → Shared → Prop} (ht : ∀ v ∈ vs, ∃ a its, v = .ref a ∧ IsTup s.heap a its) (h0 : vs[0]? = some (.ref a)) (he : IsTup s.heap a #[]) (h : Q oneType' s) : wpAny M A (keyKind' vs.toArray) Q E s := by
  obtain ⟨r, rfl⟩ : ∃ r, vs = .ref a :: r := by
    cases vs with
    | nil => cases h0
    | cons v r =>
      cases h0
      exact ⟨r, rfl⟩
  rw [keyKind'_eq, List.mapM_toArray, map_eq_pure_bind]
  refine wpAny_bind (wpAny_bind (tups_firsts _ ht fun fs hl hf => wpAny_pure ?_))
  have f0 := hf _ _ _ rfl rfl he
  have e0 : fs.toArray[0]? = some none := by simpa using f0
  have hall : (fs.toArray.all fun x => x.isSome) = false := by
    cases fs with
    | nil => cases f0
    | cons f fs =>
      cases f0
      simp
  rw [if_neg (by rw [hall]; simp), e0, if_neg (by simp)]
  have hT : ∀ v ∈ (Value.ref a :: r), PySem.W.Looks M s.heap (typeOf v) (.type "tuple") := fun v hv => by
    obtain ⟨b, its, rfl, o, ho, hc, _⟩ := ht v hv
    have : PySem.W.Looks M s.heap (typeOf (.ref b)) o.cls := (PySem.W.Looks.ld ho).andThen .now
    rw [hc] at this
    exact this
  rw [oneTypeOnly'_eq, List.mapM_toArray, map_eq_pure_bind]
  refine wpAny_bind (wpAny_bind (wpAny_bind (PySem.W.kas_mapM (r := Value.type "tuple") _ (fun v hv Q' hq => (hT v hv).here hq) (wpAny_pure ?_))))
  have hall2 : ((List.map (fun _ => Value.type "tuple") (Value.ref a :: r)).toArray.all fun x => x == Value.type "tuple") = true := by
    simp only [List.all_toArray, List.all_map, List.all_eq_true]
    intro _ _
    rfl
  have h1 : (List.map (fun _ => Value.type "tuple") (Value.ref a :: r)).toArray[0]? = some (Value.type "tuple") := by simp
  rw [h1]
  simp only [hall2, if_true]
  exact wpAny_pure (wpAny_pure h)
def IsTi (h : Heap) (v : Value) (ns : List Int) : Prop := ∃ a its, v = .ref a ∧ IsTup h a its ∧ IntsAre its.toList ns
theorem tups_cmp {vs : List Value} {k : Value → List Int} (hu : A.units < cLine) (hv : ∀ v ∈ vs, IsTi s.heap v (k v)) : Cmp prog w A s oneType' (fun p => p.1 ∈ vs) (lt2 fun v u => HT.lexLt (k v) (k u)) := by
  intro p q hp hq
  show wpAny (model prog w) A (keyLt' oneType' p.1 q.1) (fun r s' => s' = s ∧ r = HT.lexLt (k p.1) (k q.1)) (fun _ _ => False) s
  obtain ⟨a, its, e1, ha, ia⟩ := hv p.1 hp
  obtain ⟨b, its2, e2, hb, ib⟩ := hv q.1 hq
  rw [keyLt'_oneType, oneLt'_eq]
  simp only [if_true]
  refine wpAny_bind (wpAny_cRoomFor hu ?_)
  obtain ⟨⟨cls, dd, data, sl⟩, ho, hc, n, hd⟩ := id ha
  obtain ⟨⟨cls2, dd2, data2, sl2⟩, ho2, hc2, n2, hd2⟩ := id hb
  simp only at hc hd hc2 hd2
  subst hc hd hc2 hd2
  generalize k p.1 = kp at ia ⊢
  generalize k q.1 = kq at ib ⊢
  rw [e1, e2]
  refine wpAny_bind (wpAny_callSpecialIfBound?_slot (T := "tuple") ⟨_, ho, rfl⟩ PySem.F.slot_tuple_lt (call_meets PySem.F.slot_tuple_lt ⟨_, ho, rfl⟩ PySem.F.entry_tuple_lt (PySem.F.args_tuple_lt_2 _ _) (HT.tuple_lt_ints a b its its2 n n2 dd dd2 sl sl2 kp kq ia ib) ⟨ho, ho2, ?_⟩))
  exact wpAny_truthy_bool ⟨rfl, rfl⟩
theorem tups_sortable {a : Addr} {vs : List Value} {k : Value → List Int} {z : Addr} (hu : A.units < cLine) (h0 : vs[0]? = some (.ref z)) (he : IsTup s.heap z #[]) (hv : ∀ v ∈ vs, IsTi s.heap v (k v)) (ha : ∀ o, s.heap.get? a = some o → o.cls ≠ .type "tuple") : SortableO prog w A s a vs fun v u => HT.lexLt (k v) (k u) := by
  intro h' keep
  have kt : ∀ b its, IsTup s.heap b its → IsTup h' b its := fun b its ⟨o, ho, hc, r⟩ => ⟨o, keep b o (fun z => by subst z; exact ha o ho hc) ho, hc, r⟩
  have hv' : ∀ v ∈ vs, IsTi h' v (k v) := fun v hm => by
    obtain ⟨b, its, e, h1, h2⟩ := hv v hm
    exact ⟨b, its, e, kt _ _ h1, h2⟩
  refine ⟨oneType', fun Q E hq => ?_, tups_cmp (s := { s with heap := h' }) hu hv'⟩
  exact tups_kind (s := { s with heap := h' }) (fun v hm => by
    obtain ⟨b, its, e, h1, h2⟩ := hv' v hm
    exact ⟨b, its, e, h1⟩) h0 (kt _ _ he) hq
end
end TL

/-! ### on tracked things -/
namespace TL
open PySem PySem.Spec PyProof.Rows L2
def rSortedU (K : PySem.W.Frag) : List V → Hp → VK → Prop := fun vs H Q => ∃ (a : Addr) (ns : List Int), vs = [V.ref a] ∧ (SqL K H a (ns.map V.int) ∨ SqT K H a (ns.map V.int)) ∧
  ∀ (ns' : List Int) (p : Addr), ns'.Perm ns → ns'.Pairwise (· ≤ ·) → H p = none → Q (.ref p) (upd H p (.lst (ns'.map V.int)))
def rSortedDI : List V → Hp → VK → Prop := fun xs H Q => ∃ (a : Addr) (kvs : List (Key × V)) (ks : List Int), xs = [.ref a] ∧ Rd H a (.dK kvs) ∧ kvs.map (·.1) = ks.map Sum.inl ∧
    ∀ (ys : List Int) (p : Addr), ys.Perm ks → ys.Pairwise (· ≤ ·) → H p = none → Q (.ref p) (upd H p (.lst (ys.map V.int)))
def rSortedTT (K : PySem.W.Frag) : List V → Hp → VK → Prop := fun xs H Q => ∃ (a : Addr) (ts : List Addr) (k : Addr → List Int) (z : Addr), xs = [.ref a] ∧ SqL K H a (ts.map V.ref) ∧ (∀ t ∈ ts, SqT K H t ((k t).map V.int)) ∧ ts[0]? = some z ∧ k z = [] ∧
    ∀ (ts' : List Addr) (p : Addr), ts'.Perm ts → ts'.Pairwise (fun p q => HT.lexLt (k q) (k p) = false) → H p = none → Q (.ref p) (upd H p (.lst (ts'.map V.ref)))
section
variable {X : Cx}
theorem cr_sortedU : CallR X (.builtin "sorted") (rSortedU X.K) := by
  intro pins s σ H vs us Q I r h
  obtain ⟨a, ns, rfl, hs | hs, q⟩ := h
  · exact cr_sortedI pins s σ H _ us Q I r ⟨a, ns, rfl, hs, q⟩
  · obtain ⟨its, rv, ht, hz⟩ := I.tuple hs
    rw [Vals.ref1 r]
    have hi := rv.ints
    have hz' : its.length ≤ sizeLine := by rw [← rv.length]; exact hz
    refine sorted_of (G := fun vs => vs = its) SrtO.swo_int (fun vs g => by rw [g]; exact hz') (fun R hR => collect_tuple ht (hR its _ s.toks rfl fun b o e => ?_) hz') (fun vs g h2 h₁ tk a' _ _ => SrtO.ints_sortable (ns := ns) (by rw [g]; exact hi) h2) fun vs out h1 h' tk p n g so sb k1 k2 hp he => ?_
    · rw [Heap.get?_update_ne _ _ _ _ (Nat.ne_of_lt (Heap.lt_size e))]
      exact Heap.get?_push_of_some _ e
    · subst g
      obtain ⟨q1, q2, q3⟩ := SrtO.ints_out hi so sb
      have I1 : Inv X pins σ H { s with heap := h1, toks := tk } := I.kept k1
      have hlen : ((out.map SrtO.iv).map V.int).length ≤ sizeLine := by
        rw [List.length_map, q2.length_eq]
        rw [List.length_map] at hz
        exact hz
      exact ⟨.ref p, upd H p (.lst ((out.map SrtO.iv).map V.int)), I1.laid (t' := tk) k2 hp ⟨hlen, out, n, vals_of_ints q1, he⟩, rfl, q _ _ q2 q3 (I1.hok.fresh hp)⟩
theorem cr_sortedDI (hcalm : X.calm = true) : CallR X (.builtin "sorted") rSortedDI := by
  intro pins s σ H xs us Q I r q
  obtain ⟨a, kvs, ks, ex, hd, hks, q⟩ := q
  subst ex
  obtain ⟨u, eu, rx⟩ := vals1 r
  subst eu
  cases rx
  obtain ⟨z, lo, vs, rel, dd⟩ := dk_rd I.hok hd
  obtain ⟨ep, hat⟩ := dd.dictAt
  have hkeys : vs.map (·.1) = ks.map Sum.inl := rel.keys.symm.trans hks
  have hl : vs.length = ks.length := by
    have e := congrArg List.length hkeys
    rw [List.length_map, List.length_map] at e
    exact e
  have h16 : vs.length ≤ sizeLine := by rw [← rel.length]; exact z
  refine sorted_of (G := fun its => IntsAre its ks) SrtO.swo_int (fun vs' g => by rw [g.length, ← hl]; exact h16)
    (fun R hR => PySem.W.kdu_collect (A := X.A.in1) (PySem.W.kdl_dict (knd := mixKind X.prog X.w) (kvs := vs) (ep := ep) lo) (I.ok.hd hcalm) hat h16 fun h' tk acc hk hacc => hR _ h' tk ?_ hk)
    (fun vs g h2 h₁ tk a' _ _ => SrtO.ints_sortable g h2) fun vs' out h1 h' tk p n g so sb k1 k2 hp he => ?_
  · have hal : acc.toList.length = ks.length := by rw [Array.length_toList, hacc.1, hl]
    refine ints_each hal fun j v e => ?_
    obtain ⟨k, x, e1, e2⟩ := hacc.2 j v (by rw [← Array.getElem?_toList]; exact e)
    have e3 : (vs.map (·.1))[j]? = some k := by rw [List.getElem?_map, e1]; rfl
    rw [hkeys, List.getElem?_map] at e3
    cases e4 : ks[j]? with
    | none => rw [e4] at e3; cases e3
    | some y =>
      rw [e4] at e3
      have e5 : Sum.inl y = k := Option.some.inj e3
      subst e5
      rcases keyIs_shape (show keyIs (Sum.inl y) v = true from e2) with ⟨i, t, ek, ev⟩ | ⟨z, t, ek, ev⟩
      · cases ek
        exact ⟨y, t, rfl, ev⟩
      · cases ek
  · obtain ⟨q1, q2, q3⟩ := SrtO.ints_out g so sb
    have I1 : Inv X pins σ H { s with heap := h1, toks := tk } := I.kept k1
    have hlen : ((out.map SrtO.iv).map V.int).length ≤ sizeLine := by
      rw [List.length_map, q2.length_eq, ← hl]
      exact h16
    exact ⟨.ref p, upd H p (.lst ((out.map SrtO.iv).map V.int)), I1.laid (t' := tk) k2 hp ⟨hlen, out, n, vals_of_ints q1, he⟩, rfl, q _ _ q2 q3 (I1.hok.fresh hp)⟩
theorem cr_sortedTT (hu : X.A.units + 64 < cLine) : CallR X (.builtin "sorted") (rSortedTT X.K) := by
  intro pins s σ H xs us Q I r h
  obtain ⟨a, ts, k, z, rfl, hs, hN, h0, hk, q⟩ := h
  obtain ⟨its, rv, hl, hz⟩ := I.list hs
  rw [Vals.ref1 r]
  have ei := nts_of rv
  have hz' : its.length ≤ sizeLine := by rw [← rv.length]; exact hz
  have ht : ∀ t ∈ ts, ∃ a' : List Value, IntsAre a' (k t) ∧ IsTup s.heap t a'.toArray := fun t ht => by
    obtain ⟨us, r1, p1, _⟩ := I.tuple (hN t ht)
    exact ⟨us, intsAre_of r1, p1⟩
  have hz0 : z ∈ ts := List.mem_of_getElem? h0
  refine sorted_of (G := fun vs => vs = its) (NtL.swo_lexL fun u => k (adO u)) (fun vs g => by rw [g]; exact hz')
    (fun R hR => collect_list hl.isList (hR its _ s.toks rfl fun b o e => ?_) hz') (fun vs g h2 h₁ tk a' ha' kk => ?_) fun vs out h1 h' tk p n g so sb k1 k2 hp he => ?_
  · rw [Heap.get?_update_ne _ _ _ _ (Nat.ne_of_lt (Heap.lt_size e))]
    exact Heap.get?_push_of_some _ e
  · subst g
    have kt : ∀ b its, IsTup s.heap b its → IsTup h₁ b its := fun b its ⟨o, ho, r⟩ => ⟨o, (kk b o ho).2, r⟩
    refine tups_sortable (s := { s with heap := h₁, toks := tk }) (z := z) (by first | (show (X.A.units + _) + _ < cLine; omega) | (have e : X.A.in1.in1.units = X.A.units + 2 := rfl; omega) | (unfold Around.in1; simp only; omega)) (by rw [ei, List.getElem?_map, h0]; rfl) ?_ (fun v hv => ?_) fun o ho => ?_
    · obtain ⟨u, i1, i2⟩ := ht z hz0
      rw [hk] at i1
      cases i1
      exact kt _ _ i2
    · rw [ei] at hv
      obtain ⟨t, m, rfl⟩ := List.mem_map.mp hv
      obtain ⟨u, i1, i2⟩ := ht t m
      exact ⟨t, u.toArray, rfl, kt _ _ i2, i1⟩
    · have e' : some o = some (seqObj "list" vs.toArray 0) := ho.symm.trans ha'
      cases e'
      intro c
      exact absurd (Value.type.inj c) (by decide)
  · subst g
    have eo : out = (out.map adO).map Value.ref := ref_map fun u hm => by
      have hm' : u ∈ vs := sb.perm.mem_iff.mp hm
      rw [ei] at hm'
      obtain ⟨t, _, e⟩ := List.mem_map.mp hm'
      exact ⟨t, e.symm⟩
    have hpm : (out.map adO).Perm ts := by
      have p1 := sb.perm.map adO
      rw [ei, ad_map] at p1
      exact p1
    have hps : (out.map adO).Pairwise (fun p q => HT.lexLt (k q) (k p) = false) := List.pairwise_map.mpr (so.imp fun {x y} z => z)
    have hlen : ((out.map adO).map V.ref).length ≤ sizeLine := by
      rw [List.length_map, hpm.length_eq]
      rw [List.length_map] at hz
      exact hz
    have rvo : Vals ((out.map adO).map V.ref) out := by
      have z := of_nts (out.map adO)
      rw [← eo] at z
      exact z
    have I1 : Inv X pins σ H { s with heap := h1, toks := tk } := I.kept k1
    exact ⟨.ref p, upd H p (.lst ((out.map adO).map V.ref)), I1.laid (t' := tk) k2 hp ⟨hlen, out, n, rvo, he⟩, rfl, q _ _ hpm hps (I1.hok.fresh hp)⟩
end
end TL

/-! sorted on trees; dicts -/
namespace TL
open PySem PySem.Spec PyProof.Rows L2

/-! ### sorted of a tuple or list of ints -/
inductive sortUR : List T → Ob → Prop
  | l {ns : List Int} : sortUR [.lst (ns.map T.int)] (.lst ((srt ns).map T.int))
  | t {ns : List Int} : sortUR [.tup (ns.map T.int)] (.lst ((srt ns).map T.int))
theorem rs_sortedU {K : PySem.W.Frag} : RSN K (rSortedU K) sortUR := fun B H vs xs z e d hg Q q => by
  cases hg with
  | @l ns =>
    cases d with
    | cons d1 d2 =>
      cases d2
      cases d1 with
      | lst h s =>
        rw [s.intsV] at h
        refine ⟨_, ns, rfl, .inl (SqL.of (e _ _ h)), fun ns' p h1 h2 hp => ?_⟩
        rw [rising_uniq (h1.trans (srt_perm ns).symm) h2 (srt_rising ns)]
        exact q p _ hp Dns.ints
  | @t ns =>
    cases d with
    | cons d1 d2 =>
      cases d2
      cases d1 with
      | tup h s =>
        rw [s.intsV] at h
        refine ⟨_, ns, rfl, .inr (SqT.of (e _ _ h)), fun ns' p h1 h2 hp => ?_⟩
        rw [rising_uniq (h1.trans (srt_perm ns).symm) h2 (srt_rising ns)]
        exact q p _ hp Dns.ints

/-! ### sorted of a list of tuples of ints, the first of them empty -/
def lle (a b : List Int) : Bool := !HT.lexLt b a
theorem lex_irr : ∀ a : List Int, HT.lexLt a a = false
  | [] => rfl
  | x :: a => by rw [HT.lexLt_cons, if_pos rfl]; exact lex_irr a
theorem lex_anti : ∀ {a b : List Int}, HT.lexLt a b = false → HT.lexLt b a = false → a = b
  | [], [], _, _ => rfl
  | [], y :: b, h, _ => by rw [HT.lexLt_nil_cons] at h; cases h
  | x :: a, [], _, h => by rw [HT.lexLt_nil_cons] at h; cases h
  | x :: a, y :: b, h1, h2 => by
    rw [HT.lexLt_cons] at h1 h2
    by_cases e : x = y
    · subst e
      rw [if_pos rfl] at h1 h2
      rw [lex_anti h1 h2]
    · rw [if_neg e] at h1
      rw [if_neg fun z => e z.symm] at h2
      have := of_decide_eq_false h1
      have := of_decide_eq_false h2
      omega
def srtL (nss : List (List Int)) : List (List Int) := nss.mergeSort lle
theorem srtL_perm (nss : List (List Int)) : (srtL nss).Perm nss := List.mergeSort_perm _ _
theorem srtL_rising (nss : List (List Int)) : (srtL nss).Pairwise (fun a b => HT.lexLt b a = false) := by
  have h := List.pairwise_mergeSort (le := lle) (fun a b c h1 h2 => by
    unfold lle at *
    rw [Bool.not_eq_true'] at *
    exact NtL.lex_tr _ _ _ h1 h2) (fun a b => by
    unfold lle
    cases h : HT.lexLt b a with
    | false => rfl
    | true => simp [NtL.lex_asym _ _ h]) nss
  exact h.imp fun {a b} h => by
    unfold lle at h
    rw [Bool.not_eq_true'] at h
    exact h
theorem risingL_uniq {α : Type} {r : α → α → Prop} (irr : ∀ a b, r a b → r b a → a = b) (rfl' : ∀ a, r a a) : ∀ {l m : List α}, l.Perm m → l.Pairwise r → m.Pairwise r → l = m
  | [], m, p, _, _ => (p.symm.eq_nil).symm
  | x :: l, [], p, _, _ => by
    have := p.length_eq
    simp at this
  | x :: l, y :: m, p, h1, h2 => by
    have e : x = y := by
      have a1 : y ∈ x :: l := p.mem_iff.mpr List.mem_cons_self
      have a2 : x ∈ y :: m := p.mem_iff.mp List.mem_cons_self
      refine irr _ _ ?_ ?_
      · rcases List.mem_cons.mp a1 with h | h
        · rw [h]; exact rfl' _
        · exact (List.pairwise_cons.mp h1).1 y h
      · rcases List.mem_cons.mp a2 with h | h
        · rw [h]; exact rfl' _
        · exact (List.pairwise_cons.mp h2).1 x h
    subst e
    rw [risingL_uniq irr rfl' p.cons_inv (List.pairwise_cons.mp h1).2 (List.pairwise_cons.mp h2).2]
theorem srtL_uniq {l nss : List (List Int)} (p : l.Perm nss) (h : l.Pairwise (fun a b => HT.lexLt b a = false)) : l = srtL nss :=
  risingL_uniq (fun a b h1 h2 => lex_anti h2 h1) lex_irr (p.trans (srtL_perm nss).symm) h (srtL_rising nss)
inductive sortTR : List T → Ob → Prop
  | mk {nss : List (List Int)} (h : nss[0]? = some []) : sortTR [.lst (nss.map tI)] (.lst ((srtL nss).map tI))
def iV : V → Int
  | .int i => i
  | _ => 0
/-- the ints of the tuple at an address -/
def intsAt (B : Hp) (a : Addr) : List Int := match B a with
  | some (.tup vs) => vs.map iV
  | _ => []
theorem iV_map (ns : List Int) : (ns.map V.int).map iV = ns := by
  rw [List.map_map]
  exact (List.map_congr_left fun _ _ => rfl).trans (List.map_id ns)
theorem tups_at {K : PySem.W.Frag} {B : Hp} : ∀ {vs : List V} {nss : List (List Int)}, Dns K B vs (nss.map tI) → ∃ ts : List Addr, vs = ts.map V.ref ∧ ts.map (intsAt B) = nss ∧ ∀ t ∈ ts, B t = some (.tup ((intsAt B t).map V.int))
  | _, [], .nil => ⟨[], rfl, rfl, fun t h => by cases h⟩
  | _, ns :: nss, .cons h g => by
    obtain ⟨ts, h1, h2, h3⟩ := tups_at g
    cases h with
    | @tup a vs _ hb hs =>
      rw [hs.intsV] at hb
      have e : intsAt B a = ns := by unfold intsAt; rw [hb]; exact iV_map ns
      refine ⟨a :: ts, by rw [h1]; rfl, by rw [List.map_cons, e, h2], fun t ht => ?_⟩
      rcases List.mem_cons.mp ht with rfl | ht
      · rw [e]
        exact hb
      · exact h3 t ht
theorem tups_dn {K : PySem.W.Frag} {B : Hp} : ∀ {ts : List Addr}, (∀ t ∈ ts, B t = some (.tup ((intsAt B t).map V.int))) → Dns K B (ts.map V.ref) ((ts.map (intsAt B)).map tI)
  | [], _ => .nil
  | t :: ts, h => .cons (.tup (h t List.mem_cons_self) Dns.ints) (tups_dn fun u hu => h u (List.mem_cons_of_mem _ hu))
theorem rs_sortedT {K : PySem.W.Frag} : RSN K (rSortedTT K) sortTR := fun B H vs xs z e d hg Q q => by
  cases hg with
  | @mk nss h0 =>
    cases d with
    | cons d1 d2 =>
      cases d2
      cases d1 with
      | lst h s =>
        obtain ⟨ts, rfl, h2, h3⟩ := tups_at s
        obtain ⟨z, r, rfl⟩ : ∃ z r, ts = z :: r := by
          cases ts with
          | nil =>
            subst h2
            cases h0
          | cons z r => exact ⟨z, r, rfl⟩
        have hz : intsAt B z = [] := by
          rw [← h2] at h0
          exact Option.some.inj h0
        refine ⟨_, z :: r, intsAt B, z, rfl, SqL.of (e _ _ h), fun t ht => SqT.of (e _ _ (h3 t ht)), rfl, hz, fun ts' p h1 hp hn => ?_⟩
        have e2 : ts'.map (intsAt B) = srtL nss := by
          refine srtL_uniq ?_ ?_
          · rw [← h2]
            exact h1.map _
          · exact List.pairwise_map.mpr hp
        refine q p _ hn ?_
        show Dns K B (ts'.map V.ref) ((srtL nss).map tI)
        rw [← e2]
        exact tups_dn fun t ht => h3 t (h1.mem_iff.mp ht)

section
variable {X : Cx} {e : Expr} {te : TE} {x : XE} {pos p : Pos}
theorem pn_sortedU (hm : X.mg "sorted" = none) (ha : PX X e te x) (hg : Gl X "sorted" := by rfl) (he : starEach [e] X.env = (false, eval e X.env) :: starEach [] X.env := by rfl) (hpl : (backTo pos (starEach [] X.env)).any (·.1) = false := by rfl) :
    PN X (.Call (.Name "sorted" p) [e] [] pos) (tCB (rSortedU X.K) (tCons te tNil)) (xCN sortUR (xCons x xNil)) := pn_callB cr_sortedU rs_sortedU hg hm (by decide +kernel) (px_cons ha px_nil he) (by decide) (by decide) he hpl
theorem pn_sortedUk {K : PySem.W.Frag} (hm : X.mg "sorted" = none) (ha : PX X e te x) (hg : Gl X "sorted" := by rfl) (he : starEach [e] X.env = (false, eval e X.env) :: starEach [] X.env := by rfl) (hpl : (backTo pos (starEach [] X.env)).any (·.1) = false := by rfl) (hK : X.K = K := by rfl) :
    PN X (.Call (.Name "sorted" p) [e] [] pos) (tCB (rSortedU K) (tCons te tNil)) (xCN sortUR (xCons x xNil)) := by subst hK; exact pn_sortedU hm ha hg he hpl
theorem pn_sortedT (hm : X.mg "sorted" = none) (hu : X.A.units + 65 < cLine) (ha : PX X e te x) (hg : Gl X "sorted" := by rfl) (he : starEach [e] X.env = (false, eval e X.env) :: starEach [] X.env := by rfl) (hpl : (backTo pos (starEach [] X.env)).any (·.1) = false := by rfl) :
    PN X (.Call (.Name "sorted" p) [e] [] pos) (tCB (rSortedTT X.K) (tCons te tNil)) (xCN sortTR (xCons x xNil)) := pn_callB (cr_sortedTT (by omega)) rs_sortedT hg hm (by decide +kernel) (px_cons ha px_nil he) (by decide) (by decide) he hpl
end

/-! ### dicts on trees -/
section
variable {κ : Type} [DecidableEq κ]
def hasK (kvs : List (κ × T)) (k : κ) : Bool := kvs.any fun kv => decide (kv.1 = k)
def putT (kvs : List (κ × T)) (k : κ) (v : T) : List (κ × T) := if hasK kvs k = true then kvs.map (fun kv => if kv.1 = k then (kv.1, v) else kv) else kvs ++ [(k, v)]
theorem Dkv.has {K : PySem.W.Frag} {B : Hp} {vs : List (κ × V)} {ts : List (κ × T)} (h : Dkv K B vs ts) (k : κ) : (valV vs k).isSome = hasK ts k := by
  rw [← valV_any]
  unfold hasK
  induction h with
  | nil => rfl
  | cons h1 h2 ih => rw [List.any_cons, List.any_cons, ih, h1.1]
theorem Dkv.len {K : PySem.W.Frag} {B : Hp} {vs : List (κ × V)} {ts : List (κ × T)} (h : Dkv K B vs ts) : vs.length = ts.length := Paired.length h
theorem Dkv.keys {K : PySem.W.Frag} {B : Hp} {vs : List (κ × V)} {ts : List (κ × T)} (h : Dkv K B vs ts) : vs.map (·.1) = ts.map (·.1) := by
  induction h with
  | nil => rfl
  | cons h1 h2 ih => rw [List.map_cons, List.map_cons, ih, h1.1]
theorem Dkv.put {K : PySem.W.Frag} {B : Hp} {vs : List (κ × V)} {ts : List (κ × T)} (h : Dkv K B vs ts) (k : κ) {v : V} {t : T} (d : Dn K B v t) : Dkv K B (putK vs k v) (putT ts k t) := by
  unfold putK putT
  have e : (vs.any fun kv => decide (kv.1 = k)) = hasK ts k := by rw [valV_any]; exact h.has k
  rw [e]
  clear e
  by_cases c : hasK ts k = true
  · rw [if_pos c, if_pos c]
    clear c
    induction h with
    | nil => exact .nil
    | @cons p q ps qs h1 h2 ih =>
      rw [List.map_cons, List.map_cons]
      refine .cons ?_ ih
      show (if p.1 = k then (p.1, v) else p).1 = (if q.1 = k then (q.1, t) else q).1 ∧ Dn K B (if p.1 = k then (p.1, v) else p).2 (if q.1 = k then (q.1, t) else q).2
      rw [h1.1]
      split
      · exact ⟨rfl, d⟩
      · first | exact ⟨rfl, h1.2⟩ | exact h1
  · rw [if_neg c, if_neg c]
    exact Paired.snoc h ⟨rfl, d⟩
end
def keyT : T → Option Key
  | .int i => some (.inl i)
  | .str s => some (.inr s)
  | _ => none
theorem keyT_kV {K : PySem.W.Frag} {B : Hp} {v : V} {t : T} {k : Key} (d : Dn K B v t) (h : keyT t = some k) : v = kV k := by
  cases d <;> simp [keyT] at h <;> subst h <;> rfl
abbrev kI (ns : List Int) : List Key := ns.map Sum.inl
theorem kI_kV (ns : List Int) : (kI ns).map kV = ns.map V.int := by
  unfold kI
  rw [List.map_map]
  rfl
abbrev S.dkAt (s : S) (i : Nat) (kvs : List (Key × T)) : Prop := s.ds[i]? = some (Slot.ow (.dk kvs))
abbrev S.dtAt (s : S) (i : Nat) (kvs : List (List Key × T)) : Prop := s.ds[i]? = some (Slot.ow (.dt kvs))
section
variable {Z : Zone} {B : Hp} {st : S} {σ : L2.St} {H : Hp} {i : Nat}
theorem Rl.dkAt {kvs : List (Key × T)} (r : Rl Z B st σ H) (h : st.dkAt i kvs) : ∃ p vs, σ[i]? = some (some (V.ref p)) ∧ H p = some (.dK vs) ∧ Dkv Z.K B vs kvs := by
  obtain ⟨p, o, h1, h2, h3, _⟩ := r.ow i _ h
  cases o <;> first | exact ⟨p, _, h1, h2, h3⟩ | exact (show False from h3).elim
theorem Rl.dtAt {kvs : List (List Key × T)} (r : Rl Z B st σ H) (h : st.dtAt i kvs) : ∃ p vs, σ[i]? = some (some (V.ref p)) ∧ H p = some (.dT vs) ∧ Dkv Z.K B vs kvs := by
  obtain ⟨p, o, h1, h2, h3, _⟩ := r.ow i _ h
  cases o <;> first | exact ⟨p, _, h1, h2, h3⟩ | exact (show False from h3).elim
end
def xInK (n : Bool) (i : Nat) (xe : XE) : XE := fun st k => xe st fun u s1 => ∃ kvs c, s1.dkAt i kvs ∧ keyT u = some c ∧ k (.bl (n ^^ hasK kvs c)) s1
def xInT (n : Bool) (i : Nat) (xe : XE) : XE := fun st k => xe st fun u s1 => ∃ kvs ns, s1.dtAt i kvs ∧ u = tI ns ∧ k (.bl (n ^^ hasK kvs (kI ns))) s1
def tDI (n : Bool) (ty td : TE) : TE := if n = true then tDNotIn ty td else tDIn ty td
def xDnewK (i : Nat) : XS := fun D st => i < st.ds.length ∧ D.nx (st.put i (.ow (.dk [])))
def xDputK (i : Nat) (xk xe : XE) : XS := fun D st => xe st fun t s1 => (∃ kvs, s1.dkAt i kvs) ∧ xk s1 fun u s2 => ∃ kvs c, s2.dkAt i kvs ∧ keyT u = some c ∧ kvs.length < sizeLine ∧ D.nx (s2.put i (.ow (.dk (putT kvs c t))))
def xSortedD (i : Nat) : XN := fun st k => ∃ kvs ns, st.dkAt i kvs ∧ kvs.map (·.1) = ns.map Sum.inl ∧ k (.lst ((srt ns).map T.int)) st
section
variable {Z : Zone} {i : Nat} {te tk : TE} {xe xk : XE}
theorem snd_inK {n : Bool} (he : SndE Z te xe) : SndE Z (tDI n te (tVar i)) (xInK n i xe) := fun st k h B σ H r Q q => by
  have main : te σ H fun y H1 => tVar i σ H1 fun x H2 => ∃ a o, x = .ref a ∧ DGet H2 a y o ∧ Q (.bl (n ^^ o.isSome)) H2 :=
    he st _ h B σ H r _ fun B1 v u s1 H1 ⟨kvs, c, h0, hc, h1⟩ r1 e1 d1 => by
      obtain ⟨p, vs, g1, g2, g3⟩ := r1.dkAt h0
      rw [keyT_kV d1 hc]
      refine ⟨.ref p, g1, p, _, rfl, DGet.k g2, ?_⟩
      rw [g3.has c]
      exact q B1 _ _ s1 H1 h1 r1 e1 (.bl _)
  cases n with
  | true =>
    show tDNotIn te (tVar i) σ H Q
    unfold tDNotIn
    simpa using main
  | false =>
    show tDIn te (tVar i) σ H Q
    unfold tDIn
    simpa using main
theorem snd_inT {n : Bool} (he : SndE Z te xe) : SndE Z (tDI n te (tVar i)) (xInT n i xe) := fun st k h B σ H r Q q => by
  have main : te σ H fun y H1 => tVar i σ H1 fun x H2 => ∃ a o, x = .ref a ∧ DGet H2 a y o ∧ Q (.bl (n ^^ o.isSome)) H2 :=
    he st _ h B σ H r _ fun B1 v u s1 H1 ⟨kvs, ns, h0, hu, h1⟩ r1 e1 d1 => by
      obtain ⟨p, vs, g1, g2, g3⟩ := r1.dtAt h0
      subst hu
      cases d1 with
      | @tup a ws _ hb hs =>
        rw [hs.intsV, ← kI_kV] at hb
        refine ⟨.ref p, g1, p, _, rfl, DGet.t g2 (r1.bk _ _ hb), ?_⟩
        rw [g3.has (kI ns)]
        exact q B1 _ _ s1 H1 h1 r1 e1 (.bl _)
  cases n with
  | true =>
    show tDNotIn te (tVar i) σ H Q
    unfold tDNotIn
    simpa using main
  | false =>
    show tDIn te (tVar i) σ H Q
    unfold tDIn
    simpa using main
theorem snd_dputK (hk : SndE Z tk xk) (he : SndE Z te xe) : SndS Z (sDPut (tVar i) tk te) (xDputK i xk xe) := fun D st h B σ H r D' d =>
  he st _ h B σ H r _ fun B1 v t s1 H1 ⟨⟨kvs0, h0⟩, h1⟩ r1 e1 d1 => by
    obtain ⟨p0, _, g0, _, _⟩ := r1.dkAt h0
    refine ⟨.ref p0, g0, hk s1 _ h1 B1 σ H1 r1 _ fun B2 w u s2 H2 ⟨kvs, c, h2, hc, hl, h3⟩ r2 e2 d2 => ?_⟩
    obtain ⟨p, vs, g1, g2, g3⟩ := r2.dkAt h2
    rw [g0] at g1
    cases g1
    rw [keyT_kV d2 hc]
    exact ⟨p0, _, rfl, DPut.k g2 (by rw [g3.len]; exact hl), d.nx B2 _ σ _ h3 (e1.trans e2) (r2.write (o' := .dK (putK vs c v)) (c' := .dk (putT kvs c t)) h2 g0 (g3.put c (d1.mono e2)))⟩
theorem snd_sortedD : SndN Z (tCB rSortedDI (tCons (tVar i) tNil)) (xSortedD i) := fun st k ⟨kvs, ns, h0, hk, h⟩ B σ H r Q q => by
  obtain ⟨p, vs, g1, g2, g3⟩ := r.dkAt h0
  refine ⟨.ref p, g1, p, vs, ns, rfl, .inl g2, g3.keys.trans hk, fun ys a h1 h2 ha => ?_⟩
  rw [rising_uniq (h1.trans (srt_perm ns).symm) h2 (srt_rising ns)]
  exact q B a _ (.lst ((srt ns).map T.int)) st _ h (r.stp (Stp.apart r.bk ha)) (Ex.refl B) (r.apart ha) upd_same Dns.ints
end
section
variable {X : Cx} {a b e o : Expr} {te ti : TE} {xe xi : XE} {pos pos' p : Pos} {i : Nat}
theorem px_dictK (hu : X.A.units + 65 < cLine) (ho : PE X b (tVar i)) (ha : PX X a te xe) (hm : behindInMarks .In b = false := by rfl) : PX X (.Compare a [.In] [b] pos) (tDI false te (tVar i)) (xInK false i xe) := ⟨pe_cmp (pc_din (by omega) ha.pe ho) hm, fun Z z => snd_inK (ha.sn Z z)⟩
theorem px_dictKn (hu : X.A.units + 65 < cLine) (ho : PE X b (tVar i)) (ha : PX X a te xe) (hm : behindInMarks .NotIn b = false := by rfl) : PX X (.Compare a [.NotIn] [b] pos) (tDI true te (tVar i)) (xInK true i xe) := ⟨pe_cmp (pc_dnotin (by omega) ha.pe ho) hm, fun Z z => snd_inK (ha.sn Z z)⟩
theorem px_dictT (hu : X.A.units + 65 < cLine) (ho : PE X b (tVar i)) (ha : PX X a te xe) (hm : behindInMarks .In b = false := by rfl) : PX X (.Compare a [.In] [b] pos) (tDI false te (tVar i)) (xInT false i xe) := ⟨pe_cmp (pc_din (by omega) ha.pe ho) hm, fun Z z => snd_inT (ha.sn Z z)⟩
theorem px_dictTn (hu : X.A.units + 65 < cLine) (ho : PE X b (tVar i)) (ha : PX X a te xe) (hm : behindInMarks .NotIn b = false := by rfl) : PX X (.Compare a [.NotIn] [b] pos) (tDI true te (tVar i)) (xInT true i xe) := ⟨pe_cmp (pc_dnotin (by omega) ha.pe ho) hm, fun Z z => snd_inT (ha.sn Z z)⟩
theorem sx_dnewK {n : Str} {p2 : Pos} (hN : X.N.Nodup) (hi : X.N[i]? = some n) (hx : Loc X.env.scope n) (hs : swapsWith (.Dict [] [] pos') (some (.Name n p2)) pos.line X.env = pure false := by rfl) (hf : X.fn n = true ∨ X.env.scope.names.lookup n = some .local := by first | exact .inl rfl | exact .inr rfl | assumption) :
    PSX X (.Assign [.Name n p2] (.Dict [] [] pos') pos) (tAsg tDNewK (gName i)) (xDnewK i) :=
  ⟨ps_set hN hi hx pe_dnewK hs hf, fun Z z D st ⟨hl, h⟩ B σ H r D' d => fun p hp => d.nx B _ _ _ h (Ex.refl B) ((r.stp (Stp.apart r.bk hp)).putO (c := .dk []) hl (r.apart hp) upd_same .nil)⟩
theorem sx_dputK (hu : X.A.units + 65 < cLine) (ho : PE X o (tVar i)) (hi : PX X a ti xi) (he : PX X e te xe) (hs : swapsWith e (some (.Subscript o a pos')) pos.line X.env = pure false := by rfl) :
    PSX X (.Assign [.Subscript o a pos'] e pos) (sDPut (tVar i) ti te) (xDputK i xi xe) := ⟨ps_dput (by omega) ho hi.pe he.pe hs, fun Z z => snd_dputK (hi.sn Z z) (he.sn Z z)⟩
theorem pn_sortedD (hm : X.mg "sorted" = none) (hc : X.calm = true) (ho : PE X a (tVar i)) (hg : Gl X "sorted" := by rfl) (he : starEach [a] X.env = (false, eval a X.env) :: starEach [] X.env := by rfl) (hpl : (backTo pos (starEach [] X.env)).any (·.1) = false := by rfl) :
    PN X (.Call (.Name "sorted" p) [a] [] pos) (tCB rSortedDI (tCons (tVar i) tNil)) (xSortedD i) := ⟨pe_callB (cr_sortedDI hc) hg hm (by decide +kernel) (pa_cons ho pa_nil he) (by decide) (by decide) he hpl, fun Z z => snd_sortedD⟩
end
section
variable {X : Cx} {K : PySem.W.Frag} {a b c e : Expr} {te : TE} {xe : XE} {pos : Pos} {i : Nat}
theorem pb_of (h : PX X e te xe) (hp : PT X e (tB te)) : PB X e (tB te) (xB xe) := ⟨hp, fun Z z st k hk B σ H r Q q => h.sn Z z st _ hk B σ H r _ fun B1 v t s1 H1 ⟨b, hb, h1⟩ r1 e1 d1 => by
  subst hb
  cases d1
  exact ⟨_, rfl, q B1 b s1 H1 h1 r1 e1⟩⟩
theorem pb_dictK (hu : X.A.units + 65 < cLine) (ho : PE X b (tVar i)) (ha : PX X a te xe) (hm : behindInMarks .In b = false := by rfl) : PB X (.Compare a [.In] [b] pos) (tB (tDI false te (tVar i))) (xB (xInK false i xe)) := pb_of (px_dictK hu ho ha hm) (pt_cmp (pc_din (by omega) ha.pe ho) hm)
theorem pb_dictKn (hu : X.A.units + 65 < cLine) (ho : PE X b (tVar i)) (ha : PX X a te xe) (hm : behindInMarks .NotIn b = false := by rfl) : PB X (.Compare a [.NotIn] [b] pos) (tB (tDI true te (tVar i))) (xB (xInK true i xe)) := pb_of (px_dictKn hu ho ha hm) (pt_cmp (pc_dnotin (by omega) ha.pe ho) hm)
theorem pb_dictT (hu : X.A.units + 65 < cLine) (ho : PE X b (tVar i)) (ha : PX X a te xe) (hm : behindInMarks .In b = false := by rfl) : PB X (.Compare a [.In] [b] pos) (tB (tDI false te (tVar i))) (xB (xInT false i xe)) := pb_of (px_dictT hu ho ha hm) (pt_cmp (pc_din (by omega) ha.pe ho) hm)
theorem pb_dictTn (hu : X.A.units + 65 < cLine) (ho : PE X b (tVar i)) (ha : PX X a te xe) (hm : behindInMarks .NotIn b = false := by rfl) : PB X (.Compare a [.NotIn] [b] pos) (tB (tDI true te (tVar i))) (xB (xInT true i xe)) := pb_of (px_dictTn hu ho ha hm) (pt_cmp (pc_dnotin (by omega) ha.pe ho) hm)
end
end TL

/-! {k: v for x in xs}, keys of any kind that a dict of the layer takes; here: tuples of ints -/
namespace TL
open PySem PySem.Spec PyProof.Rows L2
section
variable {X : Cx}
theorem dset_any {pins : List (Addr × Obj)} {σ : L2.St} {H : Hp} {s : Shared} {E : Value → Shared → Prop} {D : Addr} {kvs : List (List Key × V)} {k : List Key} {b : Addr} {v : V} {r : Value} {Q : Unit → Shared → Prop} (hu : X.A.units < cLine)
    (I : Inv X pins σ H s) (hD : H D = some (.dT kvs)) (hb : H b = some (.tup (k.map kV))) (hz : kvs.length < sizeLine) (rv : RelV v r) (h : ∀ s', Inv X pins σ (upd H D (.dT (putK kvs k v))) s' → Q () s') :
    wpAny (model X.prog X.w) X.A (dictSet D (.ref b) r) Q E s := by
  obtain ⟨z, hd, xs, rel, dd⟩ := dt_of I.hok hD
  have l1 : xs.length ≤ sizeLine := by rw [← Paired.length rel]; exact z
  have l2 : (putK kvs k v).length ≤ sizeLine := Nat.le_trans (length_putK kvs k v) hz
  refine wpAny_dictSet_heap (hsz := l1) (show (tupleKind (mixKind X.prog X.w)).room X.A from hu) (key_of I.hok hb) dd fun h' dd' hs => h _ ?_
  obtain ⟨q, es, ep, hq, h2, h3, h4, _, h5⟩ := dd'
  refine d_write I (by rw [hD]; trivial) hs ⟨q, hq⟩ ⟨l2, hd, _, (rel.put k hb rv).keeps fun c ys ec => ?_, q, es, ep, hq, h2, h3, h4, h5⟩
  rw [upd_ne (ne_of ec hD (fun z => nomatch z))]
  exact ec
def tDcT (wi : TI) (g : TG) (tk tv : TE) (vs : List Nat) : TE := fun σ H Q => wi σ H fun J H1 => ∀ D, H1 D = none → ∃ W : Nat → Nat → Hp → Prop, (∃ m, W 0 m (upd H1 D (.dT []))) ∧ ∀ i m H, W i m H →
  (J.stop i H ∧ Q (.ref D) H) ∨ (J.go i H ∧ ∃ Nx : Hp → Prop, (∀ H', Nx H' → ∃ m', m' < m ∧ W (i + 1) m' H') ∧ ∀ x H', J.yld i H x H' → g x (wipe σ vs) H' fun σ2 H2 => wipe σ2 vs = wipe σ vs ∧
    tk σ2 H2 fun y H3 => tv σ2 H3 fun z H4 => ∃ b kvs k, y = .ref b ∧ H4 b = some (.tup (List.map kV k)) ∧ H4 D = some (.dT kvs) ∧ kvs.length < sizeLine ∧ Nx (upd H4 D (.dT (putK kvs k z))))
theorem pe_dcT {kx vx tg iter : Expr} {scope : Scope} {own : List (Str × Nat)} {pos : Pos} {wi : TI} {g : TG} {tk tv : TE} (hu : X.A.units < cLine) (hc : X.calm = true) (hN : X.N.Nodup) (hi : PI X tg iter wi) (ok : BlkOk X.N X.env.scope scope own)
    (hg : ∀ (s : Shared) (H : Hp) (C : Addr) (cl : List (Str × Addr)) (fp : List Addr), PG (X.blk s H scope (compEnvC scope cl C X.env) fp) tg g)
    (hk : ∀ (s : Shared) (H : Hp) (C : Addr) (cl : List (Str × Addr)) (fp : List Addr), PE (X.blk s H scope (compEnvC scope cl C X.env) fp) kx tk)
    (he : ∀ (s : Shared) (H : Hp) (C : Addr) (cl : List (Str × Addr)) (fp : List Addr), PE (X.blk s H scope (compEnvC scope cl C X.env) fp) vx tv) (hs : ∀ x, foldedSetIterable iter X.env x = pure x := by intro _; rfl) :
    PE X (.DictComp kx vx [⟨tg, iter, [], 0⟩] scope pos) (tDcT wi g tk tv (own.map (·.2))) := by
  refine ⟨fun pins s σ H Q I hw => ?_⟩
  rw [arm_eval_DictComp]
  have frees : ∀ y ∈ scope.names, y.2 = .free → ∃ c, X.env.cells.lookup y.1 = some c := fun y hy e => by
    rcases ok.free y hy e with q | q
    · exact I.ok.has _ (.inl q)
    · exact I.ok.has _ (by first | exact .inl q | exact .inr q)
  refine wpAny_comprehension_free rfl hs (closure_ok frees) ok.kind (fun y hy e => by rw [ok.uniq y hy, e]) (thn (hi.run pins s σ H _ I hw) fun xv s1 hx => thn hx fun itv s2 w2 => ?_)
  obtain ⟨it, fp, tn, J, Ha, e, Ia, T, sta, fa, qa⟩ := w2
  subst e
  refine wpAny_newObj_type (newEnv_comp ?_)
  generalize eD : s2.heap.objs.size = D
  obtain ⟨W, ⟨m0, w0⟩, turn⟩ := qa D (Ia.hok.fresh (Nat.le_of_eq eD))
  generalize es3 : ({ s2 with heap := s2.heap.push { cls := .type "dict", data := .dict #[] } } : Shared) = s3
  have hp3 : s3.heap = s2.heap.push { cls := .type "dict", data := .dict #[] } := by rw [← es3]
  have Ib : Inv X pins σ (upd Ha D (.dT [])) s3 := by
    rw [← es3]
    refine Ia.laid (t' := s2.toks) (fun b o e => Heap.get?_push_of_some _ e) (Nat.le_of_eq eD) ?_
    rw [← eD]
    exact dt_empty s2.heap Ia.big
  have small : ∀ b ∈ fp, b < s2.heap.objs.size := fun b hb => let ⟨_, e, _⟩ := T.obj _ _ sta b hb; Heap.lt_size e
  have fb : ∀ b ∈ fp, FpOk X pins (upd Ha D (.dT [])) b ∧ b < s3.heap.objs.size := fun b hb => by
    refine ⟨⟨?_, (fa b hb).2⟩, ?_⟩
    · rw [upd_ne (show b ≠ D by rw [← eD]; exact Nat.ne_of_lt (small b hb))]
      exact (fa b hb).1
    · rw [hp3, Heap.size_push]
      exact Nat.lt_succ_of_lt (small b hb)
  have stb : tn 0 s3.heap := T.keep _ _ _ sta fun b _ o e => by
    rw [hp3]
    exact Heap.get?_push_of_some _ e
  have Ic := block_start Ib ok hN fb
  generalize ecl : cellsFrom (s3.heap.objs.size + 1) scope.names (cloFrom X.env.cells scope.names []) = cl at Ic
  have pg := hg s3 (upd Ha D (.dT [])) s3.heap.objs.size cl fp
  have pk := hk s3 (upd Ha D (.dT [])) s3.heap.objs.size cl fp
  have pv := he s3 (upd Ha D (.dT [])) s3.heap.objs.size cl fp
  show codeAny _ _ (.compStart (.DictComp kx vx [⟨tg, iter, [], 0⟩] scope pos) 0 (.ref it) (.ref D) (compEnvC scope cl s3.heap.objs.size X.env)) (compPost (model X.prog X.w) X.A X.xe none (EP X pins σ Q) (.ref D) s3.heap.objs.size) { s3 with heap := pushCells (s3.heap.push { cls := .type "dict", data := .dict #[] }) scope.names }
  have none_fp : ∀ b ∈ fp, (upd Ha D (.dT [])) b = none := fun b hb => (fb b hb).1.1
  generalize ece : compEnvC scope cl s3.heap.objs.size X.env = ce at Ic pg pk pv ⊢
  have locC : ce.locals = s3.heap.objs.size := by subst ece; rfl
  generalize eH3 : upd Ha D (.dT []) = Hb at Ib Ic pg pk pv w0 none_fp fb
  generalize es4 : ({ s3 with heap := pushCells (s3.heap.push { cls := .type "dict", data := .dict #[] }) scope.names } : Shared) = s4 at Ic ⊢
  have stc : tn 0 s4.heap := T.keep _ _ _ stb fun b _ o e => by
    rw [← es4]
    exact pushCells_keeps _ _ _ _ (Heap.get?_push_of_some _ e)
  have foot : ∀ {σ' : L2.St} {H' : Hp} {s' : Shared}, Inv (X.blk s3 Hb scope ce fp) [] σ' H' s' → (∀ b ∈ fp, H' b = none) → ∀ b ∈ fp, FpOk (X.blk s3 Hb scope ce fp) [] H' b := fun {σ' H' s'} J' hn b hb =>
    ⟨hn b hb, (J'.ok.exf b hb).1, J'.ok.exfs b hb, .inl hb, (J'.ok.exf b hb).2, fun p hp => absurd (show p ∈ ([] : List (Addr × Obj)) ++ [] from hp) (by simp)⟩
  refine (fun loop => codeAny_compStart_dict loop (T.self X.A 0 _ _ _ stc loop) : _ → codeAny _ _ _ _ _) ?_
  refine compLoop_anyD (fun n s' => ∃ i H', Inv (X.blk s3 Hb scope ce fp) [] (wipe σ (own.map (·.2))) H' s' ∧ tn i s'.heap ∧ (∀ b ∈ fp, H' b = none) ∧ W i n H') ?_ m0 ⟨0, Hb, Ic, stc, none_fp, w0⟩
  rintro n s5 ⟨i, H5, I5, st5, n5, w5⟩
  rcases turn i n H5 w5 with ⟨stop, qq⟩ | ⟨go, Nx, hNx, step⟩
  · refine thnF (T.done (X.blk s3 Hb scope ce fp) rfl rfl rfl hc i [] s5 _ H5 (fun _ _ => False) I5 (foot I5 n5) st5 stop) fun r s6 ⟨hr, I6⟩ => ?_
    subst hr
    have I7 : Inv X pins σ H5 s6 := Ib.call' (ch := fp) I6.os I6.base I6.hok I6.bare fun b hb => let F := (fb b hb).1; ⟨F.2.2.2.1, F.2.1, F.2.2.2.2.1, F.2.2.2.2.2⟩
    have free : H5 s3.heap.objs.size = none := by
      have z : H5 ce.locals = none := I6.free
      rw [locC] at z
      exact z
    obtain ⟨m, hn, _⟩ := I6.loc
    have hn' : s6.heap.Ns ce.locals m := hn
    rw [locC] at hn'
    obtain ⟨f0, f1, f2, f3, f4, f5⟩ := Ib.fpOk (H' := H5) (Nat.le_refl _) free
    exact ⟨m, hn', fun h'' sb => ⟨.ref D, H5, I7.turned (t' := s6.toks) (fun b o hb e => (sb.2 b hb).trans e) f0 f1 f3 f4 f5, rfl, qq⟩⟩
  · refine thnF (T.item (X.blk s3 Hb scope ce fp) rfl rfl rfl hc i [] s5 _ H5 (fun _ _ => False) I5 (foot I5 n5) st5 go) fun r s6 ⟨u, hr, h6⟩ => ?_
    subst hr
    refine thnF h6 fun _ s7 ⟨x, H7, I7, r7, y7, st7, n7⟩ => ?_
    have Ip := I7.pinned (foot I7 n7) (T.obj _ _ st7)
    refine thnF (pg.run _ s7 _ H7 x u _ Ip r7 (step x H7 y7)) fun _ s8 ⟨σ8, H8, I8, hw8, q8⟩ => ?_
    refine wpAny_pure ?_
    show wpAny _ _ _ _ _ _
    refine thnF (pk.run _ s8 σ8 H8 _ I8 q8) fun z s9 ⟨yk, H9, I9, r9, q9⟩ => thnF (pv.run _ s9 σ8 H9 _ I9 q9) fun z2 s10 ⟨yv, H10, I10, r10, b, kvs, k, ek, hb10, hD10, hz10, nx⟩ => ?_
    subst ek
    cases (show z = Value.ref b from r9)
    refine dset_any (X := X.blk s3 Hb scope ce fp) hu I10 hD10 hb10 hz10 r10 fun s11 I11 => ?_
    obtain ⟨m', hm, w'⟩ := hNx _ nx
    have pins' : ∀ b ∈ fp, ∀ o, s7.heap.get? b = some o → s11.heap.get? b = some o ∧ (upd H10 D (.dT (putK kvs k yv))) b = none := fun b hb o e =>
      let z := I11.pin (b, o) (List.mem_append_right _ (List.mem_append_right _ (mem_pinsAt hb e)))
      ⟨z.1, z.2.1⟩
    refine ⟨m', hm, i + 1, _, (I11.unpinned (pins := [])).weak (by rw [← hw8, wipe_length]) (fun j v e => ?_), T.keep _ _ _ st7 fun b hb o e => (pins' b hb o e).1, fun b hb => ?_, w'⟩
    · rw [← hw8] at e
      exact (wipe_some e).1
    · obtain ⟨o, e, _⟩ := T.obj _ _ st7 b hb
      exact (pins' b hb o e).2
end
/-! ### {x: True for x in xs} on trees, the keys tuples of ints -/
def dcKvs (nss : List (List Int)) : List (List Key × T) := nss.foldl (fun acc ns => putT acc (kI ns) (.bl true)) []
theorem dcKvs_snoc (nss : List (List Int)) (ns : List Int) : dcKvs (nss ++ [ns]) = putT (dcKvs nss) (kI ns) (.bl true) := by unfold dcKvs; rw [List.foldl_append]; rfl
theorem hasK_put {κ : Type} [DecidableEq κ] (kvs : List (κ × T)) (k j : κ) (v : T) : hasK (putT kvs k v) j = (hasK kvs j || decide (j = k)) := by
  unfold putT
  by_cases c : hasK kvs k = true
  · rw [if_pos c]
    have e : hasK (kvs.map fun kv => if kv.1 = k then (kv.1, v) else kv) j = hasK kvs j := by
      unfold hasK
      rw [List.any_map]
      congr 1
      funext p
      show decide ((if p.1 = k then (p.1, v) else p).1 = j) = decide (p.1 = j)
      split <;> rfl
    rw [e]
    by_cases z : j = k
    · subst z
      rw [c]
      rfl
    · simp [z]
  · rw [if_neg c]
    unfold hasK
    rw [List.any_append]
    simp [eq_comm]
theorem hasK_dc (nss : List (List Int)) (ns : List Int) : hasK (dcKvs nss) (kI ns) = decide (ns ∈ nss) := by
  have inj : ∀ a b : List Int, kI a = kI b ↔ a = b := fun a b => ⟨fun h => by
    have h1 := kVs_inj (a := kI a) (b := kI b) (by rw [h])
    have h2 := kI_kV a
    have h3 := kI_kV b
    rw [h1] at h2
    have h4 : a.map V.int = b.map V.int := h2.symm.trans h3
    have := congrArg (List.map iV) h4
    rwa [iV_map, iV_map] at this, fun h => by rw [h]⟩
  have gen : ∀ (l : List (List Int)) (acc : List (List Key × T)), hasK (l.foldl (fun acc ns => putT acc (kI ns) (.bl true)) acc) (kI ns) = (hasK acc (kI ns) || decide (ns ∈ l)) := by
    intro l
    induction l with
    | nil => intro acc; simp
    | cons x l ih =>
      intro acc
      rw [List.foldl_cons, ih, hasK_put]
      by_cases e : ns = x
      · simp [e]
      · have : ¬ kI ns = kI x := fun h => e ((inj _ _).mp h)
        simp [e, this]
  unfold dcKvs
  rw [gen]
  rfl
theorem putT_len {κ : Type} [DecidableEq κ] (kvs : List (κ × T)) (k : κ) (v : T) : (putT kvs k v).length ≤ kvs.length + 1 := by
  unfold putT
  split
  · rw [List.length_map]; omega
  · rw [List.length_append]; exact Nat.le_refl _
theorem dcKvs_len (nss : List (List Int)) : (dcKvs nss).length ≤ nss.length := by
  have gen : ∀ (l : List (List Int)) (acc : List (List Key × T)), (l.foldl (fun acc ns => putT acc (kI ns) (.bl true)) acc).length ≤ acc.length + l.length := by
    intro l
    induction l with
    | nil => intro acc; simp
    | cons x l ih =>
      intro acc
      have h1 := ih (putT acc (kI x) (.bl true))
      have h2 := putT_len acc (kI x) (.bl true)
      rw [List.foldl_cons, List.length_cons]
      omega
  have := gen nss []
  simpa [dcKvs] using this
def xDcT (xi : XI) (i : Nat) : XN := fun st k => xi st fun ts s1 => ∃ nss : List (List Int), ts = nss.map tI ∧ i < s1.ds.length ∧ (∀ c, s1.ds[i]? ≠ some (Slot.ow c)) ∧ ts.length < sizeLine ∧ k (.dt (dcKvs nss)) s1
theorem snd_dcT {Z : Zone} {wi : TI} {xi : XI} {i : Nat} (hi : SndI Z wi xi) : SndN Z (tDcT wi (gName i) (tVar i) (tC (.bl true)) [i]) (xDcT xi i) := fun st k h B σ H r Q q =>
  hi st _ h B σ H r _ fun B1 J ts s1 H1 ⟨nss, hts, hl, hno, hz, hk⟩ e1 r1 ok D hD => by
    refine ⟨fun n m H' => m = ts.length - n ∧ n ≤ ts.length ∧ ∃ B' vs, Ex B1 B' ∧ Rl Z B' s1 σ H' ∧ Apt Z B' s1 σ D ∧ H' D = some (.dT vs) ∧ Dkv Z.K B' vs (dcKvs (nss.take n)),
      ⟨ts.length, by simp, Nat.zero_le _, B1, [], Ex.refl B1, r1.stp (Stp.apart r1.bk hD), r1.apart hD, upd_same, .nil⟩, fun n m H' ⟨hm, hle, B', vs, e2, r2, a2, hd, hds⟩ => ?_⟩
    by_cases hlt : n < ts.length
    · have hx : ts[n]? = some ts[n] := List.getElem?_eq_getElem hlt
      have hn : n < nss.length := by
        have := hlt
        rw [hts, List.length_map] at this
        exact this
      have hxn : ts[n] = tI nss[n] := by
        have h1 : ts[n]? = some (tI nss[n]) := by rw [hts, List.getElem?_map, List.getElem?_eq_getElem hn]; rfl
        rw [hx] at h1
        exact Option.some.inj h1
      refine .inr ⟨ok.go B' n H' e2 r2.bk hlt, fun H2 => ∃ B2 vs2, Ex B1 B2 ∧ Rl Z B2 s1 σ H2 ∧ Apt Z B2 s1 σ D ∧ H2 D = some (.dT vs2) ∧ Dkv Z.K B2 vs2 (dcKvs (nss.take (n + 1))), fun H2 ⟨B2, vs2, w⟩ => ⟨ts.length - (n + 1), by omega, rfl, hlt, B2, vs2, w⟩, fun v H2 y => ?_⟩
      obtain ⟨B2, st2, dv⟩ := ok.yld B' n _ v H' H2 e2 r2.bk hx y
      have r3 := r2.stp st2
      have hD2 : B2 D = none := by
        cases qq : B2 D with
        | none => rfl
        | some u =>
          rcases st2.nw D u qq with z | z
          · rw [hd] at z
            cases z
          · rw [a2.b] at z
            cases z
      have a3 : Apt Z B2 s1 σ D := ⟨hD2, a2.f, a2.o, a2.t⟩
      have hd3 : H2 D = some (.dT vs) := st2.hh D _ hd
      show wipe ((wipe σ [i]).set i (some v)) [i] = wipe σ [i] ∧ _
      refine ⟨by show (((σ.set i none).set i (some v)).set i none) = σ.set i none; rw [List.set_set, List.set_set], ?_⟩
      rw [hxn] at dv
      have li : i < σ.length := by rw [r1.len]; exact hl
      cases dv with
      | @tup b ws _ hb hs =>
        have eb := hb
        rw [hs.intsV, ← kI_kV] at eb
        refine ⟨.ref b, by show (((σ.set i none).set i (some (V.ref b))))[i]? = _; rw [List.getElem?_set_self (by rw [List.length_set]; exact li)], ?_⟩
        refine ⟨b, vs, kI nss[n], rfl, st2.bh b _ eb, hd3, ?_, B2, putK vs (kI nss[n]) (.bl true), e2.trans st2.bb, r3.writeA a3, a3, upd_same, ?_⟩
        · have h1 := hds.len
          have h2 := dcKvs_len (nss.take n)
          rw [List.length_take] at h2
          omega
        · rw [show nss.take (n + 1) = nss.take n ++ [nss[n]] by rw [List.take_add_one, List.getElem?_eq_getElem hn]; rfl, dcKvs_snoc]
          exact (hds.mono st2.bb).put _ (.bl true)
    · have e : n = ts.length := by omega
      subst e
      refine .inl ⟨ok.stop B' H' e2 r2.bk, ?_⟩
      have el : nss.take ts.length = nss := by rw [hts, List.length_map, List.take_length]
      rw [el] at hds
      exact q B' D (.dT vs) (.dt (dcKvs nss)) s1 H' hk r2 (e1.trans e2) a2 hd hds
section
variable {X : Cx} {iter : Expr} {scope : Scope} {n : Str} {p2 p3 p4 pos : Pos} {wi : TI} {xi : XI} {i : Nat} {j5 : Option Str}
theorem pn_dcT {kx vx : Expr} (hu : X.A.units + 65 < cLine) (hc : X.calm = true) (hN : X.N.Nodup) (hi : PIX X (.Name n p2) iter wi xi) (ok : BlkOk X.N X.env.scope scope [(n, i)])
    (hg : ∀ (s : Shared) (H : Hp) (C : Addr) (cl : List (Str × Addr)) (fp : List Addr), PG (X.blk s H scope (compEnvC scope cl C X.env) fp) (.Name n p2) (gName i))
    (hk : ∀ (s : Shared) (H : Hp) (C : Addr) (cl : List (Str × Addr)) (fp : List Addr), PE (X.blk s H scope (compEnvC scope cl C X.env) fp) kx (tVar i))
    (he : ∀ (s : Shared) (H : Hp) (C : Addr) (cl : List (Str × Addr)) (fp : List Addr), PE (X.blk s H scope (compEnvC scope cl C X.env) fp) vx (tC (.bl true))) (hs : ∀ x, foldedSetIterable iter X.env x = pure x := by intro _; rfl) :
    PN X (.DictComp kx vx [⟨.Name n p2, iter, [], 0⟩] scope pos) (tDcT wi (gName i) (tVar i) (tC (.bl true)) [i]) (xDcT xi i) :=
  ⟨pe_dcT (own := [(n, i)]) (by omega) hc hN hi.pi ok hg hk he hs, fun Z z => snd_dcT (hi.sn Z z)⟩
end
end TL

/-! an own error with one text field, raised and caught -/
namespace TL
open PySem PySem.Spec PyProof.Rows L2
/-- what the written part says of the error's class (at C), its field f, its own maker (at fI) -/
structure Bad (P : Program) (w : World) (K : PySem.W.Frag) (mg : Str → Option Value) (base : Heap) (x f : Str) (C fI : Addr) : Prop where
  gC : mg x = some (.ref C)
  ox : OexC K C
  xf : XfC K C
  noF : PySem.W.findIn K (.ref C) f = some none
  iC : PySem.W.findIn K (.ref C) "__init__" = some (some (.ref fI))
  tI : PySem.W.typeIn K (.ref fI) = some (.type "function")
  te : PySem.W.exmOne K (.ref C) (.ref C) = some true
  fn : ∃ fd, FnOk P w K mg base CX0 1 fI fd ["self", f] (fun vs H Q _ => ∃ a z, vs = [.ref a, .str z] ∧ H a = some (exo a C none) ∧ ∀ dx, H dx = none → dx ≠ a → Q .non (upd (upd H dx (exd dx [(f, .str z)])) a (exo a C (some dx)))) ∧ Binds K fd ["self", f] []
abbrev spI (f : Str) (C : Addr) : Sp := fun vs H Q _ => ∃ a z, vs = [.ref a, .str z] ∧ H a = some (exo a C none) ∧ ∀ dx, H dx = none → dx ≠ a → Q .non (upd (upd H dx (exd dx [(f, .str z)])) a (exo a C (some dx)))
/-- an error's way out, from a zone -/
def ErrOk (Z : Zone) (f : Str) (C : Addr) (E : XK) (ke : Str → Prop) : Prop := ∀ z B' H' d, ke z → Stp Z.B0 Z.F B' H' → H' d = none → E (.ref C) (some d) (upd H' d (.xd [(f, .str z)]))
def xRaise (ke : Str → Prop) (z : Str) : XS := fun _ _ => ke z
theorem snd_raise {Z : Zone} {f : Str} {C : Addr} {E : XK} {ke : Str → Prop} {z : Str} (he : ErrOk Z f C E ke) : SndS Z (fun _ σ H => tMkO C (spI f C) [] (tCons (tC (.str z)) tNil) σ H fun cls d H' => E cls d H') (xRaise ke z) := fun D st h B σ H r D' d => by
  refine ⟨(show 1 ≤ 1000 by decide), fun a ha => ⟨a, z, rfl, upd_same, fun dx hdx ne => ⟨rfl, dx, [(f, .str z)], upd_same, ?_, ?_, ?_⟩⟩⟩
  · rw [upd_ne ne]
    exact upd_same
  · rw [upd_ne ne] at hdx
    exact hdx
  · rw [upd_ne ne] at hdx
    have e : upd (del (upd (upd (upd H a (exo a C none)) dx (exd dx [(f, .str z)])) a (exo a C (some dx))) a) dx (.xd [(f, .str z)]) = upd H dx (.xd [(f, .str z)]) := by
      funext b
      by_cases h1 : b = dx
      · subst h1
        rw [upd_same, upd_same]
      · rw [upd_ne h1, upd_ne h1]
        by_cases h2 : b = a
        · subst h2
          rw [del_same, ha]
        · rw [del_ne h2, upd_ne h2, upd_ne h1, upd_ne h2]
    show E (.ref C) (some dx) _
    rw [e]
    exact he z B H dx h ⟨r.b0, r.fk, r.bk, r.nw⟩ hdx
theorem snd_if {Z : Zone} {tc : TT} {xc : XT} {t u : TS} {x y : XS} (hc : SndT Z tc xc) (ha : SndS Z t x) (hb : SndS Z u y) : SndS Z (tIfS tc t u) (xIfS xc x y) := fun D st h B σ H r D' d => hc st _ h B σ H r _ fun B1 k s1 H1 h1 r1 e1 => by
  cases k with
  | true =>
    show t D' σ H1
    exact ha D s1 h1 B1 σ H1 r1 D' (d.mono e1)
  | false =>
    show u D' σ H1
    exact hb D s1 h1 B1 σ H1 r1 D' (d.mono e1)
/-- a def that may raise -/
abbrev XFE := List T → (Rt → Prop) → (Str → Prop) → Prop
def spE (K : PySem.W.Frag) (f : Str) (C : Addr) (P : XFE) : Sp := fun vs H Q E => ∃ B ts k ke, Ex B H ∧ Dns K B vs ts ∧ P ts k ke ∧ (∀ r B' v H', k r → Stp B H B' H' → RtOk K B' H H' v r → Q v H') ∧ ErrOk ⟨K, B, H⟩ f C E ke
section
variable {P : Program} {w : World} {K : PySem.W.Frag} {mg : Str → Option Value} {base : Heap}
/-- where nothing is raised, it is a def like any other -/
theorem FnOk.calm {f : Addr} {fd : FuncData} {ps : List Str} {k : Nat} {sp : Sp} (F : FnOk P w K mg base (L2.CX P w) k f fd ps sp) {sp' : Sp} (h : ∀ vs H Q E, sp' vs H Q E → sp vs H Q E0) : FnOk P w K mg base CX0 k f fd ps sp' :=
  ⟨fun vs H Q E q => F.len vs H Q _ (h vs H Q E q), fun A outer s H args us vs Q E hr e0 hb hv hs => codeAny_mono (F.run A outer s H args us vs Q E0 hr e0 hb hv (h vs H Q E hs)) fun r s' q => by
    cases r with
    | ok fl => cases fl <;> exact q
    | error e =>
      obtain ⟨_, _, _, _, _, _, _, _, _, _, _, _, z⟩ := q
      exact z.elim⟩
/-- the error's own maker: self.f = f -/
theorem ok_init {x f q : Str} {C fI : Addr} {st : Stmt} {fd : FuncData} {p0 p1 p2 p3 : Pos} (ne : f ≠ "self") (F : Fun K "__init__" q st fI fd) (S : FnScope ["self", f] ["self", f] (defScope st)) (hb : defBody st = [.Assign [.Attribute (.Name "self" p0) f p1] (.Name f p2) p3]) (T : OexC K C) (hno : PySem.W.findIn K (.ref C) f = some none)
    (v0 : Vis (defScope st) "self") (v1 : Vis (defScope st) f) (hd : (f == ("__debug__" : Str)) = false) (hcd : (f == ("__classdict__" : Str)) = false) (hs : ∀ env, swapsWith (.Name f p2) (some (.Attribute (.Name "self" p0) f p1)) p3.line env = pure false) :
    FnOk P w K mg base CX0 1 fI fd ["self", f] (spI f C) := by
  refine F.ok S (fun vs H Q E h => ?_) (fun cdv A outer s H vs Q E hr h => ⟨tOst K f (tVar 0) (tVar 1), ?_, ?_⟩)
  · obtain ⟨a, z, rfl, _⟩ := h
    rfl
  · rw [hb]
    exact pss_one (ps_ost (pe_var rfl v0 (by decide) (by decide)) (pe_var rfl v1 hd hcd) (hs _))
  · obtain ⟨a, z, rfl, ha, q⟩ := h
    exact ⟨.str z, rfl, .ref a, rfl, a, C, rfl, T, hno, .inl ⟨ha, fun dx h1 h2 => q dx h1 h2⟩⟩
end
end TL

/-! readings computed: equations for simp -/
namespace TL
open PySem PySem.Spec PyProof.Rows L2
theorem intsT_inj : ∀ {ns ms : List Int}, ns.map T.int = ms.map T.int → ns = ms
  | [], [], _ => rfl
  | [], _ :: _, h => by simp at h
  | _ :: _, [], h => by simp at h
  | i :: ns, j :: ms, h => by
    rw [List.map_cons, List.map_cons] at h
    injection h with h1 h2
    injection h1 with h1
    rw [h1, intsT_inj h2]
@[simp] theorem ints_inj {ns ms : List Int} : ns.map T.int = ms.map T.int ↔ ns = ms := ⟨intsT_inj, fun h => by rw [h]⟩
section
variable {st : S} {D : Dx} {i j : Nat} {a b c : XE} {t u : XT} {x y : XS} {xs xr : XA} {g : T → T → T → Prop} {n : XN} {ds : List Slot} {tp : Option (Addr × List T)} {d : Slot} {z : T}
@[simp] theorem e_put : (S.mk ds tp).put i d = ⟨ds.set i d, tp⟩ := rfl
@[simp] theorem e_tape {q} : (S.mk ds tp).tape q = ⟨ds, q⟩ := rfl
@[simp] theorem e_var {k : T → S → Prop} : xVar i st k = ∃ t, st.ds[i]? = some (Slot.fr t) ∧ k t st := rfl
@[simp] theorem e_c {k : T → S → Prop} : xC z st k = k z st := rfl
@[simp] theorem e_op {k : T → S → Prop} : xOp g a b st k = a st fun x s1 => b s1 fun y s2 => ∃ z, g x y z ∧ k z s2 := rfl
@[simp] theorem e_un {g : T → T → Prop} {k : T → S → Prop} : xUn g a st k = a st fun x s1 => ∃ z, g x z ∧ k z s1 := rfl
@[simp] theorem e_nil {k : List T → S → Prop} : xNil st k = k [] st := rfl
@[simp] theorem e_cons {k : List T → S → Prop} : xCons a xr st k = a st fun x s1 => xr s1 fun xs s2 => k (x :: xs) s2 := rfl
@[simp] theorem e_tup {k : T → S → Prop} : xTup xs st k = xs st fun ts s1 => ts.length ≤ sizeLine ∧ k (.tup ts) s1 := rfl
@[simp] theorem e_lst {k : Ob → S → Prop} : xLst xs st k = xs st fun ts s1 => ts.length ≤ sizeLine ∧ k (.lst ts) s1 := rfl
def frz (k : T → S → Prop) (s1 : S) : Ob → Prop
  | .lst ts => k (.lst ts) s1
  | _ => False
@[simp] theorem frz_lst {k : T → S → Prop} {ts : List T} : frz k st (.lst ts) = k (.lst ts) st := rfl
@[simp] theorem e_fz {k : T → S → Prop} : xFz n st k = n st fun c s1 => frz k s1 c := by
  unfold xFz
  congr
@[simp] theorem e_cb {g : List T → T → Prop} {k : T → S → Prop} : xCB g xs st k = xs st fun ts s1 => ∃ z, g ts z ∧ k z s1 := rfl
@[simp] theorem e_cn {g : List T → Ob → Prop} {k : Ob → S → Prop} : xCN g xs st k = xs st fun ts s1 => ∃ z, g ts z ∧ k z s1 := rfl
@[simp] theorem e_tru {k : Bool → S → Prop} : xTru a st k = a st fun t s1 => ∃ b, truR t b ∧ k b s1 := rfl
@[simp] theorem e_b {k : Bool → S → Prop} : xB a st k = a st fun t s1 => ∃ b, t = .bl b ∧ k b s1 := rfl
@[simp] theorem e_and {k : Bool → S → Prop} : xAnd t u st k = t st fun c s1 => if c = true then u s1 k else k false s1 := rfl
@[simp] theorem e_or {k : Bool → S → Prop} : xOr t u st k = t st fun c s1 => if c = true then k true s1 else u s1 k := rfl
@[simp] theorem e_not {k : Bool → S → Prop} : xNot t st k = t st fun c s1 => k (!c) s1 := rfl
@[simp] theorem e_if {k : T → S → Prop} : xIf t a b st k = t st fun c s1 => if c = true then a s1 k else b s1 k := rfl
@[simp] theorem e_andv {k : T → S → Prop} : xAndV a b st k = a st fun x s1 => ∃ c, x = .bl c ∧ if c = true then b s1 k else k (.bl false) s1 := rfl
@[simp] theorem e_orv {k : T → S → Prop} : xOrV a b st k = a st fun x s1 => ∃ c, x = .bl c ∧ if c = true then k (.bl true) s1 else b s1 k := rfl
@[simp] theorem e_notv {k : T → S → Prop} : xNotV t st k = t st fun c s1 => k (.bl (!c)) s1 := rfl
@[simp] theorem e_no {k : Option Int → S → Prop} : xNo st k = k none st := rfl
@[simp] theorem e_part {k : Option Int → S → Prop} : xPart a st k = a st fun t s1 => ∃ i, t = .int i ∧ k (some i) s1 := rfl
@[simp] theorem e_sl {g : T → Option Int → Option Int → T → Prop} {l h : XO} {k : T → S → Prop} : xSl g a l h st k = a st fun t s1 => l s1 fun lo s2 => h s2 fun hi s3 => ∃ z, g t lo hi z ∧ k z s3 := rfl
@[simp] theorem e_rg1 {k : Int → Int → S → Prop} : xRg1 a st k = a st fun t s1 => ∃ n, t = .int n ∧ k 0 n s1 := rfl
@[simp] theorem e_rg2 {k : Int → Int → S → Prop} : xRg2 a b st k = a st fun t s1 => b s1 fun u s2 => ∃ i j, t = .int i ∧ u = .int j ∧ k i j s2 := rfl
@[simp] theorem e_lrg {r : XR} {k : Ob → S → Prop} : xLstRg r st k = r st fun i j s1 => RgOk i j ∧ k (.lst (rgT i j)) s1 := rfl
@[simp] theorem e_trg {r : XR} {k : T → S → Prop} : xTupRg r st k = r st fun i j s1 => RgOk i j ∧ k (.tup (rgT i j)) s1 := rfl
@[simp] theorem e_isi {s : String} {k : T → S → Prop} : xIsi s a st k = a st fun t s1 => ∃ b, isi s t = some b ∧ k (.bl b) s1 := rfl
def kR (k : T → S → Prop) (s1 : S) : Rt → Prop
  | .fr t => k t s1
  | .nw (.lst us) => k (.lst us) s1
  | .nw _ => False
@[simp] theorem kR_fr {k : T → S → Prop} : kR k st (.fr z) = k z st := rfl
@[simp] theorem kR_lst {k : T → S → Prop} {us : List T} : kR k st (.nw (.lst us)) = k (.lst us) st := rfl
def kN (k : Ob → S → Prop) (s1 : S) : Rt → Prop
  | .fr _ => False
  | .nw c => k c s1
@[simp] theorem kN_nw {k : Ob → S → Prop} {c : Ob} : kN k st (.nw c) = k c st := rfl
@[simp] theorem e_call {P : XF} {k : T → S → Prop} : xCall P xs st k = xs st fun ts s1 => P ts (kR k s1) := by
  unfold xCall
  congr
@[simp] theorem e_calln {P : XF} {k : Ob → S → Prop} : xCallN P xs st k = xs st fun ts s1 => P ts (kN k s1) := by
  unfold xCallN
  congr
@[simp] theorem e_callt {P : XFT} {k : T → S → Prop} : xCallT P xs st k = xs st fun ts s1 => ∃ a us tp, ts = .adr a :: us ∧ s1.tp = some (a, tp) ∧ P us tp fun r tp' => kR k (s1.tape (some (a, tp'))) r := by
  unfold xCallT
  congr
@[simp] theorem e_calltn {P : XFT} {k : Ob → S → Prop} : xCallTN P xs st k = xs st fun ts s1 => ∃ a us tp, ts = .adr a :: us ∧ s1.tp = some (a, tp) ∧ P us tp fun r tp' => kN k (s1.tape (some (a, tp'))) r := by
  unfold xCallTN
  congr
@[simp] theorem e_next : xNext D st = D.nx st := rfl
@[simp] theorem e_seq : xSeq x y D st = x { D with nx := y D } st := rfl
@[simp] theorem e_break : xBreak D st = D.bk st := rfl
@[simp] theorem e_cont : xCont D st = D.ct st := rfl
@[simp] theorem e_drop : xDrop a D st = a st fun _ s1 => D.nx s1 := rfl
@[simp] theorem e_ret : xRet a D st = a st fun t s1 => D.rt (.fr t) s1 := rfl
@[simp] theorem e_retn : xRetN D st = D.rt (.fr .non) st := rfl
@[simp] theorem e_retw : xRetW n D st = n st fun c s1 => D.rt (.nw c) s1 := rfl
@[simp] theorem e_reto : xRetO i D st = ∃ c, st.ds[i]? = some (Slot.ow c) ∧ D.rt (.nw c) (st.put i .un) := rfl
@[simp] theorem e_ifs : xIfS t x y D st = t st fun c s1 => if c = true then x D s1 else y D s1 := rfl
@[simp] theorem e_set : xSet i a D st = a st fun t s1 => i < s1.ds.length ∧ D.nx (s1.put i (.fr t)) := rfl
@[simp] theorem e_setw : xSetW i n D st = n st fun c s1 => i < s1.ds.length ∧ D.nx (s1.put i (.ow c)) := rfl
@[simp] theorem e_freeze : xFreeze i x D st = ∃ ts, st.ds[i]? = some (Slot.ow (.lst ts)) ∧ x D (st.put i (.fr (.lst ts))) := rfl
@[simp] theorem e_il {k : List T → S → Prop} : xiL a st k = a st fun t s1 => ∃ ts, (t = .lst ts ∨ t = .tup ts ∨ t = .scr ts) ∧ k ts s1 := rfl
@[simp] theorem e_r1 {k : List T → S → Prop} : xiR1 xs st k = xs st fun ts s1 => ∃ j, ts = [.int j] ∧ (-(2 ^ 62) ≤ j ∧ j < 2 ^ 62) ∧ k (rgT 0 j) s1 := rfl
@[simp] theorem e_r2 {k : List T → S → Prop} : xiR2 xs st k = xs st fun ts s1 => ∃ i j, ts = [.int i, .int j] ∧ (-(2 ^ 62) ≤ i ∧ i < 2 ^ 62 ∧ -(2 ^ 62) ≤ j ∧ j < 2 ^ 62) ∧ k (rgT i j) s1 := rfl
@[simp] theorem e_ie {k : List T → S → Prop} : xiE xs st k = xs st fun us s1 => ∃ ts, us = [.tup ts] ∧ k (enumT 0 ts) s1 := rfl
@[simp] theorem e_iz {k : List T → S → Prop} : xiZ xs st k = xs st fun vs s1 => ∃ ts us, vs = [.tup ts, .tup us] ∧ k (zipT ts us) s1 := rfl
@[simp] theorem e_gn {k : S → Prop} : xgN i z st k = (i < st.ds.length ∧ k (st.put i (.fr z))) := rfl
theorem e_g2 {k : S → Prop} : xg2 i j z st k = ∃ a b, z = .tup [a, b] ∧ i < st.ds.length ∧ j < st.ds.length ∧ k ((st.put i (.fr a)).put j (.fr b)) := rfl
@[simp] theorem e_unp {xg : XG} : xUnp a xg D st = a st fun t s1 => xg t s1 D.nx := rfl
@[simp] theorem e_yes {k : Bool → S → Prop} : xYes st k = k true st := rfl
@[simp] theorem e_ixo {k : T → S → Prop} : xIxO i a st k = ((∃ ts, st.own i ts) ∧ a st fun u s1 => ∃ j ts t, u = .int j ∧ s1.own i ts ∧ atI ts j = some t ∧ k t s1) := rfl
@[simp] theorem e_leno {k : T → S → Prop} : xLenO i st k = ∃ ts, st.own i ts ∧ k (.int ts.length) st := rfl
@[simp] theorem e_ixt {k : T → S → Prop} : xIxT i a st k = ∃ p, st.ds[i]? = some (Slot.fr (.adr p)) ∧ a st fun u s1 => ∃ j tp t, u = .int j ∧ s1.tp = some (p, tp) ∧ atI tp j = some t ∧ k t s1 := rfl
@[simp] theorem e_app {k : T → S → Prop} : xApp i a st k = ((∃ ts, st.own i ts) ∧ a st fun t s1 => ∃ ts, s1.own i ts ∧ ts.length < sizeLine ∧ k .non (s1.put i (.ow (.lst (ts ++ [t]))))) := rfl
@[simp] theorem e_pop {k : T → S → Prop} : xPopAt i a st k = ((∃ ts, st.own i ts) ∧ a st fun u s1 => ∃ j n ts t, u = .int j ∧ s1.own i ts ∧ ts.length ≤ sizeLine ∧ ixN ts.length j = some n ∧ ts[n]? = some t ∧ k t (s1.put i (.ow (.lst (ts.eraseIdx n))))) := rfl
@[simp] theorem e_rem {k : T → S → Prop} : xRem i a st k = ((∃ ts, st.own i ts) ∧ a st fun u s1 => ∃ (j : Int) (ns : List Int), u = .int j ∧ s1.own i (ns.map T.int) ∧ j ∈ ns ∧ k .non (s1.put i (.ow (.lst ((ns.erase j).map T.int))))) := rfl
@[simp] theorem e_idx {k : T → S → Prop} : xIdx a b st k = a st fun t s1 => (∃ ts, t = .lst ts) ∧ b s1 fun u s2 => ∃ (j : Int) (ns : List Int), u = .int j ∧ t = .lst (ns.map T.int) ∧ j ∈ ns ∧ k (.int (ns.idxOf j : Nat)) s2 := rfl
@[simp] theorem e_sto : xSto i a b D st = b st fun t s1 => (∃ ts, s1.own i ts) ∧ a s1 fun u s2 => ∃ j n ts, u = .int j ∧ s2.own i ts ∧ ixN ts.length j = some n ∧ D.nx (s2.put i (.ow (.lst (ts.set n t)))) := rfl
@[simp] theorem e_stot : xStoT i a b D st = b st fun t s1 => ∃ p, s1.ds[i]? = some (Slot.fr (.adr p)) ∧ a s1 fun u s2 => ∃ j n tp, u = .int j ∧ s2.tp = some (p, tp) ∧ ixN tp.length j = some n ∧ D.nx (s2.tape (some (p, tp.set n t))) := rfl
@[simp] theorem e_chain {g' : T → T → T → Prop} {k : T → S → Prop} : xChain g g' a b c st k = a st fun x s1 => b s1 fun y s2 => ∃ z, g x y (.bl z) ∧ if z = true then c s2 fun w s3 => ∃ z', g' y w z' ∧ k z' s3 else k (.bl false) s2 := rfl
@[simp] theorem e_own {ts : List T} : st.own i ts = (st.ds[i]? = some (Slot.ow (.lst ts))) := rfl
end
@[simp] theorem stP_ds {n : Nat} {ts : List T} : stP n ts = ⟨ts.map Slot.fr ++ List.replicate (n - ts.length) .un, none⟩ := rfl
@[simp] theorem stT_ds {n : Nat} {a : Addr} {tp ts : List T} : stT n a tp ts = ⟨(Slot.fr (.adr a) :: ts.map Slot.fr) ++ List.replicate (n - (ts.length + 1)) .un, some (a, tp)⟩ := rfl
section
variable {k : Rt → Prop} {r : Rt} {st : S} {kt : Rt → List T → Prop} {a : Addr}
@[simp] theorem enP_nx : (enP k).nx st = k (.fr .non) := rfl
@[simp] theorem enP_rt : (enP k).rt r st = k r := rfl
@[simp] theorem enT_nx : (enT a kt).nx st = ∃ tp, st.tp = some (a, tp) ∧ kt (.fr .non) tp := rfl
@[simp] theorem enT_rt : (enT a kt).rt r st = ∃ tp, st.tp = some (a, tp) ∧ kt r tp := rfl
end
/-! ### operations on known forms -/
section
variable {i j : Int} {z : T} {ns ms : List Int} {xs ys : List T} {c d : Bool} {n : Bool}
@[simp] theorem intR_i {C : Int → Int → Prop} {f : Int → Int → Int} : intR C f (.int i) (.int j) z ↔ C i j ∧ z = .int (f i j) := ⟨fun h => by cases h; exact ⟨by assumption, rfl⟩, fun ⟨h, e⟩ => by subst e; exact .mk h⟩
@[simp] theorem addR_i : addR (.int i) (.int j) z ↔ z = .int (i + j) := ⟨fun h => by rcases h with h | h | h <;> cases h; rfl, fun e => by subst e; exact .int⟩
@[simp] theorem addR_t : addR (.tup xs) (.tup ys) z ↔ xs.length + ys.length ≤ sizeLine ∧ z = .tup (xs ++ ys) := ⟨fun h => by rcases h with h | h | h <;> cases h; exact ⟨by assumption, rfl⟩, fun ⟨h, e⟩ => by subst e; exact .tup h⟩
@[simp] theorem addR_l : addR (.lst xs) (.lst ys) z ↔ xs.length + ys.length ≤ sizeLine ∧ z = .lst (xs ++ ys) := ⟨fun h => by rcases h with h | h | h <;> cases h; exact ⟨by assumption, rfl⟩, fun ⟨h, e⟩ => by subst e; exact .lst h⟩
@[simp] theorem mulR_i : mulR (.int i) (.int j) z ↔ CMulW i j ∧ z = .int (i * j) := ⟨fun h => by rcases h with h | h <;> cases h; exact ⟨by assumption, rfl⟩, fun ⟨h, e⟩ => by subst e; exact .int h⟩
@[simp] theorem mulR_l : mulR (.lst xs) (.int j) z ↔ (-(2 ^ 63) ≤ j ∧ j < 2 ^ 63 ∧ xs.length * j.toNat ≤ sizeLine) ∧ z = .lst (List.replicate j.toNat xs).flatten := ⟨fun h => by rcases h with h | h <;> cases h; exact ⟨⟨by assumption, by assumption, by assumption⟩, rfl⟩, fun ⟨⟨h1, h2, h3⟩, e⟩ => by subst e; exact .lst h1 h2 h3⟩
@[simp] theorem negR_i : negR (.int i) z ↔ z = .int (-i) := ⟨fun h => by cases h; rfl, fun e => by subst e; exact .mk⟩
@[simp] theorem cmpR_i {f : Int → Int → Bool} : cmpR f (.int i) (.int j) z ↔ z = .bl (f i j) := ⟨fun h => by cases h; rfl, fun e => by subst e; exact .mk⟩
@[simp] theorem leR_i : leR (.int i) (.int j) z ↔ z = .bl (decide (i ≤ j)) := ⟨fun h => by rcases h with h | h <;> cases h; rfl, fun e => by subst e; exact .int⟩
@[simp] theorem geR_i : geR (.int i) (.int j) z ↔ z = .bl (decide (j ≤ i)) := ⟨fun h => by rcases h with h | h <;> cases h; rfl, fun e => by subst e; exact .int⟩
theorem leTR_t {x y : T} (h : leTR x y z) : ∃ ns ms, x = tI ns ∧ y = tI ms ∧ z = .bl (tle ns ms) := by cases h; exact ⟨_, _, rfl, rfl, rfl⟩
theorem geTR_t {x y : T} (h : geTR x y z) : ∃ ns ms, x = tI ns ∧ y = tI ms ∧ z = .bl (tle ms ns) := by cases h; exact ⟨_, _, rfl, rfl, rfl⟩
@[simp] theorem leR_t : leR (.tup (ns.map T.int)) (.tup (ms.map T.int)) z ↔ z = .bl (tle ns ms) := ⟨fun h => by
  rcases h with h | h
  · cases h
  · obtain ⟨a, b, h1, h2, h3⟩ := leTR_t h
    injection h1 with h1
    injection h2 with h2
    rw [h3, intsT_inj h1, intsT_inj h2], fun e => by subst e; exact .tup⟩
@[simp] theorem geR_t : geR (.tup (ns.map T.int)) (.tup (ms.map T.int)) z ↔ z = .bl (tle ms ns) := ⟨fun h => by
  rcases h with h | h
  · cases h
  · obtain ⟨a, b, h1, h2, h3⟩ := geTR_t h
    injection h1 with h1
    injection h2 with h2
    rw [h3, intsT_inj h1, intsT_inj h2], fun e => by subst e; exact .tup⟩
theorem eqF_z {x y : T} (h : eqF n x y z) : ∃ v w, x.flat = some v ∧ y.flat = some w ∧ z = .bl (n ^^ decide (v = w)) := by
  cases h with
  | mk h1 h2 h => exact ⟨_, _, h1, h2, rfl⟩
theorem eqF_i (h : eqF n (.int i) (.int j) z) : z = .bl (n ^^ decide (i = j)) := by
  obtain ⟨v, w, h1, h2, e⟩ := eqF_z h
  cases h1
  cases h2
  rw [e]
  congr 2
  rw [decide_eq_decide]
  exact ⟨fun h => V.int.inj h, fun h => by rw [h]⟩
theorem eqF_s {x y : Str} (h : eqF n (.str x) (.str y) z) : z = .bl (n ^^ decide (x = y)) := by
  obtain ⟨v, w, h1, h2, e⟩ := eqF_z h
  cases h1
  cases h2
  rw [e]
  congr 2
  rw [decide_eq_decide]
  exact ⟨fun h => V.str.inj h, fun h => by rw [h]⟩
theorem eqD_z {x y : T} : eqD n x y z → z = .bl (n ^^ PyData.eqv x.dat y.dat) := fun h => by cases h; rfl
@[simp] theorem eqR_i : eqR n (.int i) (.int j) z ↔ z = .bl (n ^^ decide (i = j)) := ⟨fun h => by
  rcases h with h | h
  · exact eqF_i h
  · rw [eqD_z h]
    congr 2, fun e => by subst e; exact .int⟩
@[simp] theorem eqR_t : eqR n (.tup (ns.map T.int)) (.tup (ms.map T.int)) z ↔ z = .bl (n ^^ decide (ns = ms)) := ⟨fun h => by
  rcases h with h | h
  · obtain ⟨v, w, h1, h2, e⟩ := eqF_z h
    cases h1
  · rw [eqD_z h, eqv_tI], fun e => by subst e; exact .tup⟩
end
end TL

/-! more equations for simp; loops -/
namespace TL
open PySem PySem.Spec PyProof.Rows L2
section
variable {i j : Int} {z : T} {ns ms : List Int} {xs ys ts : List T} {c d : Bool} {n : Bool} {x : T} {o : Ob} {lo hi : Option Int}
@[simp] theorem eqR_s {x y : Str} : eqR n (.str x) (.str y) z ↔ z = .bl (n ^^ decide (x = y)) := ⟨fun h => by
  rcases h with h | h
  · exact eqF_s h
  · rw [eqD_z h]
    have e : PyData.eqv (.str x) (.str y) = decide (x = y) := by
      unfold PyData.eqv
      exact Bool.eq_iff_iff.mpr (by simp)
    show T.bl (n ^^ PyData.eqv (.str x) (.str y)) = _
    rw [e], fun e => by subst e; exact .str⟩
@[simp] theorem isX_non : isX n x .non z ↔ z = .bl (n ^^ x.isNon) := ⟨fun h => by rcases h with h | h <;> cases h; rfl, fun e => by subst e; exact .inl .non⟩
@[simp] theorem isX_bl : isX n (.bl c) (.bl d) z ↔ z = .bl (n ^^ decide (c = d)) := ⟨fun h => by rcases h with h | h <;> cases h; rfl, fun e => by subst e; exact .inr .bl⟩
@[simp] theorem ixR_t : ixR (.tup ts) (.int i) z ↔ atI ts i = some z := ⟨fun h => by cases h; assumption, .tup⟩
@[simp] theorem ixR_l : ixR (.lst ts) (.int i) z ↔ atI ts i = some z := ⟨fun h => by cases h; assumption, .lst⟩
@[simp] theorem ixR_s : ixR (.scr ts) (.int i) z ↔ atI ts i = some z := ⟨fun h => by cases h; assumption, .scr⟩
@[simp] theorem slR_t : slR (.tup ts) lo hi z ↔ z = .tup (cut ts lo hi) := ⟨fun h => by cases h; rfl, fun e => by subst e; exact .tup⟩
@[simp] theorem slR_l : slR (.lst ts) lo hi z ↔ z = .lst (cut ts lo hi) := ⟨fun h => by cases h; rfl, fun e => by subst e; exact .lst⟩
@[simp] theorem slR_s : slR (.scr ts) lo hi z ↔ z = .lst (cut ts lo hi) := ⟨fun h => by cases h; rfl, fun e => by subst e; exact .scr⟩
@[simp] theorem lenR_t : lenR [.tup ts] z ↔ z = .int ts.length := ⟨fun h => by cases h; rfl, fun e => by subst e; exact .tup⟩
@[simp] theorem lenR_l : lenR [.lst ts] z ↔ z = .int ts.length := ⟨fun h => by cases h; rfl, fun e => by subst e; exact .lst⟩
@[simp] theorem lenR_s : lenR [.scr ts] z ↔ z = .int ts.length := ⟨fun h => by cases h; rfl, fun e => by subst e; exact .scr⟩
@[simp] theorem tupR_t : tupR [.tup ts] z ↔ z = .tup ts := ⟨fun h => by cases h; rfl, fun e => by subst e; exact .tup⟩
@[simp] theorem tupR_l : tupR [.lst ts] z ↔ z = .tup ts := ⟨fun h => by cases h; rfl, fun e => by subst e; exact .lst⟩
@[simp] theorem listR_t : listR [.tup ts] o ↔ o = .lst ts := ⟨fun h => by cases h; rfl, fun e => by subst e; exact .tup⟩
@[simp] theorem listR_l : listR [.lst ts] o ↔ o = .lst ts := ⟨fun h => by cases h; rfl, fun e => by subst e; exact .lst⟩
@[simp] theorem intCR_i : intCR [.int i] z ↔ z = .int i := ⟨fun h => by cases h; rfl, fun e => by subst e; exact .int⟩
@[simp] theorem strCR_i : strCR [.int i] z ↔ i.natAbs.log2 < 1920 ∧ z = .str (toString i) := ⟨fun h => by cases h; exact ⟨by assumption, rfl⟩, fun ⟨h, e⟩ => by subst e; exact .int h⟩
theorem sortUR_z {us : List T} (h : sortUR us o) : ∃ ns, (us = [.lst (ns.map T.int)] ∨ us = [.tup (ns.map T.int)]) ∧ o = .lst ((srt ns).map T.int) := by
  cases h
  · exact ⟨_, .inl rfl, rfl⟩
  · exact ⟨_, .inr rfl, rfl⟩
@[simp] theorem sortUR_l : sortUR [.lst (ns.map T.int)] o ↔ o = .lst ((srt ns).map T.int) := by
  refine ⟨fun h => ?_, fun e => by subst e; exact .l⟩
  obtain ⟨m, h1 | h1, h2⟩ := sortUR_z h
  · injection h1 with h1
    injection h1 with h1
    rw [h2, intsT_inj h1]
  · injection h1 with h1
    cases h1
@[simp] theorem sortUR_t : sortUR [.tup (ns.map T.int)] o ↔ o = .lst ((srt ns).map T.int) := by
  refine ⟨fun h => ?_, fun e => by subst e; exact .t⟩
  obtain ⟨m, h1 | h1, h2⟩ := sortUR_z h
  · injection h1 with h1
    cases h1
  · injection h1 with h1
    injection h1 with h1
    rw [h2, intsT_inj h1]
@[simp] theorem tru_bl : truR (.bl c) d ↔ d = c := Iff.rfl
@[simp] theorem tru_i : truR (.int i) d ↔ d = (i != 0) := Iff.rfl
@[simp] theorem tru_t : truR (.tup ts) d ↔ d = !ts.isEmpty := Iff.rfl
@[simp] theorem tru_l : truR (.lst ts) d ↔ d = !ts.isEmpty := Iff.rfl
end
/-! ### what the law's things are made of -/
mutual
def T.ok : T → Bool
  | .tup ts => T.oks ts
  | .lst ts => T.oks ts
  | .adr _ => false
  | .scr _ => false
  | _ => true
def T.oks : List T → Bool
  | [] => true
  | t :: ts => t.ok && T.oks ts
end
theorem oks_all : ∀ {ts : List T}, T.oks ts = true ↔ ∀ t ∈ ts, t.ok = true
  | [] => by simp [T.oks]
  | t :: ts => by simp [T.oks, oks_all (ts := ts)]
@[simp] theorem ok_tup {ts : List T} : (T.tup ts).ok = T.oks ts := rfl
@[simp] theorem ok_lst {ts : List T} : (T.lst ts).ok = T.oks ts := rfl
@[simp] theorem ok_int {i : Int} : (T.int i).ok = true := rfl
@[simp] theorem ok_bl {i : Bool} : (T.bl i).ok = true := rfl
@[simp] theorem ok_str {i : Str} : (T.str i).ok = true := rfl
@[simp] theorem ok_non : T.non.ok = true := rfl
@[simp] theorem oks_nil : T.oks [] = true := rfl
@[simp] theorem oks_cons {t : T} {ts : List T} : T.oks (t :: ts) = (t.ok && T.oks ts) := rfl
theorem oks_ints (ns : List Int) : T.oks (ns.map T.int) = true := oks_all.mpr fun t h => by
  obtain ⟨i, _, rfl⟩ := List.mem_map.mp h
  rfl
def isTup : T → Bool
  | .tup _ => true
  | _ => false
def isIB : T → Bool
  | .int _ => true
  | .bl _ => true
  | _ => false
def isBl : T → Bool
  | .bl _ => true
  | _ => false
def isSt : T → Bool
  | .str _ => true
  | _ => false
def isW : T → Bool
  | .int _ => true
  | _ => false
theorem isi_tup {t : T} (h : t.ok = true) : isi "tuple" t = some (isTup t) := by cases t <;> first | rfl | (cases h; done) | decide +kernel
theorem isi_int {t : T} (h : t.ok = true) : isi "int" t = some (isIB t) := by cases t <;> first | rfl | (cases h; done) | decide +kernel
theorem isi_bl {t : T} (h : t.ok = true) : isi "bool" t = some (isBl t) := by cases t <;> first | rfl | (cases h; done) | decide +kernel
theorem isi_str {t : T} (h : t.ok = true) : isi "str" t = some (isSt t) := by cases t <;> first | rfl | (cases h; done) | decide +kernel
/-! ### loops -/
section
variable {D : Dx} {st : S} {xi : XI} {xg : XG} {xb : XS} {ts : List T}
theorem for_over (W : Nat → S → Prop) (h : ∀ k : List T → S → Prop, k ts st → xi st k) (h0 : W 0 st) (hs : ∀ n x s, ts[n]? = some x → W n s → xg x s fun s' => xb { D with nx := W (n + 1), ct := W (n + 1), bk := D.nx } s') (hd : ∀ s, W ts.length s → D.nx s) : xFor xi xg xb D st :=
  h _ ⟨W, h0, hs, hd⟩
theorem rgT_get {a b : Int} {n : Nat} {x : T} (h : (rgT a b)[n]? = some x) : x = .int (a + (n : Int)) ∧ a + (n : Int) < b := by
  unfold rgT at h
  rw [List.getElem?_map] at h
  cases e : (List.range (b - a).toNat)[n]? with
  | none =>
    rw [e] at h
    cases h
  | some m =>
    rw [e] at h
    have hm := List.getElem?_eq_some_iff.mp e
    obtain ⟨h1, h2⟩ := hm
    rw [List.getElem_range] at h2
    rw [List.length_range] at h1
    subst h2
    cases h
    exact ⟨rfl, by omega⟩
theorem rgT_len {a b : Int} : (rgT a b).length = (b - a).toNat := by
  unfold rgT
  rw [List.length_map, List.length_range]
theorem ints_get {ns : List Int} {n : Nat} {x : T} (h : (ns.map T.int)[n]? = some x) : ∃ i, ns[n]? = some i ∧ x = .int i := by
  rw [List.getElem?_map] at h
  cases e : ns[n]? with
  | none =>
    rw [e] at h
    cases h
  | some m =>
    rw [e] at h
    cases h
    exact ⟨m, rfl, rfl⟩
end
/-! ### in -/
section
variable {i : Int} {z : T} {ns : List Int} {n : Bool}
theorem inT_ints (i : Int) (ns : List Int) : inT (.int i) (ns.map T.int) = decide (i ∈ ns) := by
  unfold inT
  show ((ns.map T.int).any fun t => match t.flat with | some w => eqV w (.int i) | none => false) = _
  rw [List.any_map, Bool.eq_iff_iff, List.any_eq_true, decide_eq_true_eq]
  refine ⟨fun ⟨j, hj, h⟩ => ?_, fun h => ⟨i, h, ?_⟩⟩
  · have e : eqV (.int j) (.int i) = true := h
    have : j = i := by
      have e' : (j == i) = true := by simpa [eqV] using e
      simpa using e'
    rw [← this]
    exact hj
  · show eqV (.int i) (.int i) = true
    simp [eqV]
theorem anyd_ints (i : Int) (ns : List Int) : ((T.dats (ns.map T.int)).any fun z => PyData.eqv z (T.int i).dat) = decide (i ∈ ns) := by
  rw [dats_ints, List.any_map, Bool.eq_iff_iff, List.any_eq_true, decide_eq_true_eq]
  refine ⟨fun ⟨j, hj, h⟩ => ?_, fun h => ⟨i, h, ?_⟩⟩
  · have e : (j == i) = true := h
    rw [← beq_iff_eq.mp e]
    exact hj
  · show (i == i) = true
    simp
theorem inF_z {x y : T} (h : inF n x y z) : ∃ ts, (y = .tup ts ∨ y = .lst ts) ∧ z = .bl (n ^^ inT x ts) := by
  cases h
  · exact ⟨_, .inl rfl, rfl⟩
  · exact ⟨_, .inr rfl, rfl⟩
theorem inD_z {x y : T} (h : inD n x y z) : ∃ ts, (y = .tup ts ∨ y = .lst ts) ∧ z = .bl (n ^^ (T.dats ts).any fun z => PyData.eqv z x.dat) := by
  cases h
  · exact ⟨_, .inr rfl, rfl⟩
  · exact ⟨_, .inl rfl, rfl⟩
theorem flat_ints (ns : List Int) : (ns.map T.int).all (fun t => t.flat.isSome) = true := by
  rw [List.all_map, List.all_eq_true]
  intro i _
  rfl
@[simp] theorem inR_t : inR n (.int i) (.tup (ns.map T.int)) z ↔ z = .bl (n ^^ decide (i ∈ ns)) := ⟨fun h => by
  rcases h with h | h
  · obtain ⟨ts, h1 | h1, h2⟩ := inF_z h <;> cases h1
    rw [h2, inT_ints]
  · obtain ⟨ts, h1 | h1, h2⟩ := inD_z h <;> cases h1
    rw [h2, anyd_ints], fun e => by
  subst e
  rw [← inT_ints]
  exact .inl (.tup rfl (flat_ints ns))⟩
@[simp] theorem inR_l : inR n (.int i) (.lst (ns.map T.int)) z ↔ z = .bl (n ^^ decide (i ∈ ns)) := ⟨fun h => by
  rcases h with h | h
  · obtain ⟨ts, h1 | h1, h2⟩ := inF_z h <;> cases h1
    rw [h2, inT_ints]
  · obtain ⟨ts, h1 | h1, h2⟩ := inD_z h <;> cases h1
    rw [h2, anyd_ints], fun e => by
  subst e
  rw [← inT_ints]
  exact .inl (.lst rfl (flat_ints ns))⟩
end
end TL

/-! small lemmas for readings -/
namespace TL
open PySem PySem.Spec PyProof.Rows L2
@[simp high] theorem e_g2' {i j : Nat} {u v : T} {st : S} {k : S → Prop} : xg2 i j (.tup [u, v]) st k = (i < st.ds.length ∧ j < st.ds.length ∧ k ((st.put i (.fr u)).put j (.fr v))) := by
  simp only [xg2, eq_iff_iff]
  constructor
  · rintro ⟨a, b, h, h1, h2, h3⟩
    cases h
    exact ⟨h1, h2, h3⟩
  · rintro ⟨h1, h2, h3⟩
    exact ⟨u, v, rfl, h1, h2, h3⟩
@[simp] theorem and_asc {a b c : Prop} : (a ∧ b) ∧ c ↔ a ∧ (b ∧ c) := and_assoc
theorem ixN_of {m : Nat} {i : Int} (h0 : 0 ≤ i) (h1 : i < m) : ixN m i = some i.toNat := by
  unfold ixN
  rw [if_pos h0, if_pos h1]
theorem ixN_neg {m : Nat} (h1 : 0 < m) : ixN m (-1) = some (m - 1) := by
  unfold ixN
  rw [if_neg (by omega), if_pos (by omega)]
  congr 1
  omega
theorem atI_of {α : Type} {ts : List α} {i : Int} {x : α} (h0 : 0 ≤ i) (h : ts[i.toNat]? = some x) : atI ts i = some x := by
  unfold atI
  have h1 := (List.getElem?_eq_some_iff.mp h).1
  rw [ixN_of h0 (by omega)]
  exact h
theorem atI_ints {ns : List Int} {i : Int} (h0 : 0 ≤ i) (h1 : i < ns.length) : atI (ns.map T.int) i = some (.int (ns.getD i.toNat 0)) := by
  refine atI_of h0 ?_
  have : i.toNat < ns.length := by omega
  rw [List.getElem?_map, List.getElem?_eq_getElem this, List.getD_eq_getElem?_getD, List.getElem?_eq_getElem this]
  rfl
theorem drop_at {α : Type} {us : List α} {n : Nat} {x : α} (h : us[n]? = some x) : us.drop n = x :: us.drop (n + 1) := by
  have := List.drop_eq_getElem_cons (List.getElem?_eq_some_iff.mp h).1
  rw [this, (List.getElem?_eq_some_iff.mp h).2]
theorem take_at {α : Type} {us : List α} {n : Nat} {x : α} (h : us[n]? = some x) : us.take (n + 1) = us.take n ++ [x] := by
  rw [List.take_add_one, h]
  rfl
theorem enumT_el : ∀ {ts : List T} {i n : Nat} {x : T}, (enumT i ts)[n]? = some x → ∃ t, ts[n]? = some t ∧ x = .tup [.int ((i + n : Nat) : Int), t]
  | [], _, _, _, h => by simp [enumT] at h
  | t :: ts, i, 0, x, h => by
    simp [enumT] at h
    exact ⟨t, rfl, by rw [← h]; rfl⟩
  | t :: ts, i, n + 1, x, h => by
    simp only [enumT, List.getElem?_cons_succ] at h
    obtain ⟨u, h1, h2⟩ := enumT_el h
    exact ⟨u, by simpa using h1, by rw [h2, show i + 1 + n = i + (n + 1) by omega]⟩
theorem zipT_el : ∀ {as bs : List T} {n : Nat} {x : T}, (zipT as bs)[n]? = some x → ∃ a b, as[n]? = some a ∧ bs[n]? = some b ∧ x = .tup [a, b]
  | [], _, _, _, h => by simp [zipT] at h
  | _ :: _, [], _, _, h => by simp [zipT] at h
  | a :: as, b :: bs, 0, x, h => by
    simp [zipT] at h
    exact ⟨a, b, rfl, rfl, h.symm⟩
  | a :: as, b :: bs, n + 1, x, h => by
    simp only [zipT, List.getElem?_cons_succ] at h
    obtain ⟨u, v, h1, h2, h3⟩ := zipT_el h
    exact ⟨u, v, by simpa using h1, by simpa using h2, h3⟩
theorem map_get {α β : Type} {f : α → β} {l : List α} {n : Nat} {y : β} (h : (l.map f)[n]? = some y) : ∃ x, l[n]? = some x ∧ y = f x := by
  rw [List.getElem?_map] at h
  cases e : l[n]? with
  | none =>
    rw [e] at h
    cases h
  | some m =>
    rw [e] at h
    cases h
    exact ⟨m, rfl, rfl⟩
theorem oks_at {ts : List T} {n : Nat} {x : T} (h : T.oks ts = true) (hx : ts[n]? = some x) : x.ok = true := oks_all.mp h x (List.mem_of_getElem? hx)
theorem getD_at {α : Type} {l : List α} {n : Nat} {x d : α} (h : l[n]? = some x) : l.getD n d = x := by rw [List.getD_eq_getElem?_getD, h]; rfl
end TL

/-! k92: what each def promises -/
namespace Pf
open PySem PySem.Spec PyProof.Rows L2 TL
/-! ### plain functions -/
def within (lo hi : Int) : T → Bool
  | .int i => decide (lo ≤ i) && decide (i ≤ hi)
  | _ => false
def ascF (most : Int) : Int → List T → Bool
  | _, [] => true
  | a, .int i :: r => (decide (a + 1 ≤ i) && decide (i ≤ most)) && ascF most i r
  | _, _ :: _ => false
def asc (most : Int) : T → Bool
  | .tup ts => ascF most (-1) ts
  | _ => false
def toI1 : T → Int
  | .int i => i
  | _ => 0
def toI : T → List Int
  | .tup ts => ts.map toI1
  | _ => []
abbrev rowsT (rows : List (List Int)) : T := .tup (rows.map tI)
def at0 (rw : List Int) (j : Int) : Int := rw.getD j.toNat 0
def Wide (many : Nat) (rows : List (List Int)) : Prop := ∀ rw ∈ rows, rw.length = many
/-- the row is below 0 at its rule, and not above 0 but at the inner ones -/
def nwB (ins : List Int) (r : Int) (rw : List Int) : Bool := decide (at0 rw r < 0) && (List.range rw.length).all fun j => decide (rw.getD j 0 ≤ 0) || decide ((j : Int) ∈ ins)
def okAt (rows : List (List Int)) (ins : List Int) (r : Int) (t : T) : Bool := within 0 ((rows.length : Int) - 1) t && nwB ins r (rows.getD (toI1 t).toNat [])
def pzB (rows : List (List Int)) (ins : List Int) : List Int → List T → Bool
  | r :: rs, t :: ts => okAt rows ins r t && pzB rows ins rs ts
  | _, _ => true
def papersB (rows : List (List Int)) (rules ins : List Int) : T → Bool
  | .tup ts => decide (ts.length = rules.length) && pzB rows ins rules ts
  | _ => false
/-- a paper -/
def paperB (many : Nat) (rows : List (List Int)) (up lo : List Int) : T → Bool
  | .tup [a, b] => (asc ((many : Int) - 1) a && (!(toI a).isEmpty && ((up.all fun r => decide (r ∉ toI a)) && lo.all fun r => decide (r ∈ toI a)))) && papersB rows (toI a) (toI a ++ up) b
  | _ => false
/-! ### the tape -/
def Mx : Nat := 1099511627776
def TapeOk (b : Nat) (tp : List T) : Prop := ∃ (turn great : Int) (cells : List Int), tp = [.int turn, .int great, .lst (cells.map T.int)] ∧ 0 ≤ turn ∧ turn ≤ b ∧ 0 ≤ great ∧ 1 ≤ cells.length ∧ cells.length ≤ 64 ∧ ∀ c ∈ cells, 0 ≤ c ∧ c < 2097152
theorem TapeOk.mono {b c : Nat} {tp : List T} (h : TapeOk b tp) (l : b ≤ c) : TapeOk c tp := by
  obtain ⟨t, g, cs, h1, h2, h3, h4⟩ := h
  exact ⟨t, g, cs, h1, h2, by omega, h4⟩
def InR (many : Nat) (ns : List Int) : Prop := ∀ r ∈ ns, 0 ≤ r ∧ r < many
def Inc (ns : List Int) : Prop := ns.Pairwise (· < ·)
def RowOk (many : Nat) (up rules : List Int) (r : Int) (rw : List Int) : Prop := rw.length = many ∧ at0 rw r < 0 ∧ ∀ j : Nat, j < many → (j : Int) ∉ up → (j : Int) ∉ rules → rw.getD j 0 ≤ 0
/-! ### promises -/
def P_is_integer : XF := fun ts k => ∃ t, ts = [t] ∧ t.ok = true ∧ k (.fr (.bl (isW t)))
def P__law_whole : XF := P_is_integer
def P_integer_within : XF := fun ts k => ∃ t lo hi, ts = [t, .int lo, .int hi] ∧ t.ok = true ∧ k (.fr (.bl (within lo hi t)))
def P_are_ascending : XF := fun ts k => ∃ t m, ts = [t, .int m] ∧ t.ok = true ∧ k (.fr (.bl (asc m t)))
def P__law_set : XF := fun ts k => ∃ t m, ts = [.int m, t] ∧ t.ok = true ∧ m < 2 ^ 60 ∧ (∀ us, t = .tup us → us.length ≤ sizeLine) ∧ k (.fr (.bl (asc (m - 1) t)))
def P_is_nowhere_worse : XF := fun ts k => ∃ rw r ins, ts = [tI rw, .int r, tI ins] ∧ 0 ≤ r ∧ r < rw.length ∧ k (.fr (.bl (nwB ins r rw)))
def P_are_row_papers : XF := fun ts k => ∃ many rows rules ins t, ts = [rowsT rows, tI rules, tI ins, t] ∧ t.ok = true ∧ Wide many rows ∧ InR many rules ∧ k (.fr (.bl (papersB rows rules ins t)))
def P_is_row_bar : XF := fun ts k => ∃ (many : Nat) (rows : List (List Int)) (t : T), ts = [.int many, rowsT rows, t] ∧ t.ok = true ∧ Wide many rows ∧ k (.fr (.bl (paperB many rows [] [] t)))
def P_is_fence_set : XF := fun ts k => ∃ (many : Nat) (up lo : List Int) (t : T), ts = [.int many, tI up, tI lo, t] ∧ t.ok = true ∧ k (.fr (.bl (asc ((many : Int) - 1) t && ((up.all fun r => decide (r ∉ toI t)) && lo.all fun r => decide (r ∈ toI t)))))
def smallT : T → Prop
  | .tup ts => ts.length ≤ 1000
  | _ => True
def small2 : T → Prop
  | .tup ts => ts.length ≤ 1000 ∧ ∀ t ∈ ts, smallT t
  | _ => True
def P__law_paper : XF := fun ts k => ∃ (many : Nat) (rows : List (List Int)) (up lo : List Int) (t : T), ts = [.int many, rowsT rows, tI up, tI lo, t] ∧ t.ok = true ∧ small2 t ∧ many ≤ 6 ∧ rows.length ≤ 1000 ∧ Wide many rows ∧ k (.fr (.bl (paperB many rows up lo t)))
def P_need_sides : XFE := fun ts k ke => ∃ up lo : List Int, ts = [tI up, tI lo] ∧ (lo = [] → ke "empty") ∧ (lo ≠ [] → (∃ r ∈ lo, r ∈ up) → ke "common") ∧ (lo ≠ [] → (∀ r ∈ lo, r ∉ up) → k (.fr .non))
def P_is_row_fence0 : XFE := fun ts k ke => ∃ (many : Nat) (rows : List (List Int)) (up lo : List Int) (t : T), ts = [.int many, rowsT rows, tI up, tI lo, t] ∧ t.ok = true ∧ Wide many rows ∧ up.length ≤ 1000 ∧ many ≤ 6 ∧
  (lo = [] → ke "empty") ∧ (lo ≠ [] → (∃ r ∈ lo, r ∈ up) → ke "common") ∧ (lo ≠ [] → (∀ r ∈ lo, r ∉ up) → k (.fr (.bl (paperB many rows up lo t))))
def P_is_row_fence : XF := fun ts k => ∃ (many : Nat) (rows : List (List Int)) (up lo : List Int) (t : T), ts = [.int many, rowsT rows, tI up, tI lo, t] ∧ t.ok = true ∧ Wide many rows ∧ up.length ≤ 1000 ∧ many ≤ 6 ∧ lo ≠ [] ∧ (∀ r ∈ lo, r ∉ up) ∧ k (.fr (.bl (paperB many rows up lo t)))
def P__law_step : XF := fun ts k => P_is_row_fence0 ts (fun r => match r with
  | .fr t => k (.fr (.tup [.str "told", t]))
  | _ => False) (fun w => k (.fr (.tup [.str "raised", .str w])))
def P__law_word : XF := fun ts k => ∃ (many : Nat) (rows : List (List Int)) (up lo : List Int) (t : T) (w : Str), ts = [.int many, rowsT rows, tI up, tI lo, t, .str w] ∧ t.ok = true ∧ Wide many rows ∧ up.length ≤ 1000 ∧ many ≤ 6 ∧
  ((lo = [] ∧ w = "empty") ∨ (lo ≠ [] ∧ (∃ r ∈ lo, r ∈ up) ∧ w = "common")) ∧ k (.fr (.bl true))
def P__law_tape : XF := fun ts k => ∃ cells : List Int, ts = [.scr (cells.map T.int)] ∧ cells.length ≤ 100000 ∧ ∀ tp, TapeOk 0 tp → k (.nw (.lst tp))
def P__law_draw : XFT := fun ts tp k => ∃ (many : Int) (b : Nat), ts = [.int many] ∧ TapeOk b tp ∧ b + 1 ≤ Mx ∧ many < 2097152 ∧ ∀ (r : Int) (tp' : List T), 0 ≤ r → r < max 1 many → TapeOk (b + 1) tp' → k (.fr (.int r)) tp'
def P__law_some : XFT := fun ts tp k => ∃ (pool : List Int) (least : Int) (b : Nat), ts = [.lst (pool.map T.int), .int least] ∧ pool.Nodup ∧ pool.length ≤ 6 ∧ 0 ≤ least ∧ least ≤ 6 ∧ TapeOk b tp ∧ b + 12 ≤ Mx ∧
  ∀ (ns : List Int) (tp' : List T), Inc ns → (∀ r ∈ ns, r ∈ pool) → (least ≤ pool.length → least ≤ ns.length) → TapeOk (b + 12) tp' → k (.fr (tI ns)) tp'
def P__law_made : XFT := fun ts tp k => ∃ (many : Nat) (up rules : List Int) (size : Int) (b : Nat), ts = [.int many, tI up, tI rules, .int size] ∧ many ≤ 6 ∧ rules.length ≤ 6 ∧ 1 ≤ size ∧ size ≤ 1000000 ∧ InR many rules ∧ TapeOk b tp ∧ b + 72 ≤ Mx ∧
  ∀ (rws : List (List Int)) (tp' : List T), rws.length = rules.length → (∀ (i : Nat) (r : Int) (rw : List Int), rules[i]? = some r → rws[i]? = some rw → RowOk many up rules r rw) → TapeOk (b + 72) tp' → k (.nw (.lst (rws.map tI))) tp'
def PaperOk (many : Nat) (rows : List (List Int)) (up rules nums : List Int) : Prop := nums.length = rules.length ∧ ∀ (i : Nat) (r n : Int), rules[i]? = some r → nums[i]? = some n → 0 ≤ n ∧ n < rows.length ∧ RowOk many up rules r (rows.getD n.toNat [])
def P__law_world : XFT := fun ts tp k => ∃ (many : Nat) (up rules : List Int) (b : Nat), ts = [.int many, tI up, tI rules] ∧ many ≤ 6 ∧ rules.length ≤ 6 ∧ InR many rules ∧ TapeOk b tp ∧ b + 100 ≤ Mx ∧
  ∀ (rows : List (List Int)) (nums : List Int) (nothing : Int) (tp' : List T), Wide many rows → 7 ≤ rows.length → rows.length ≤ 200 → PaperOk many rows up rules nums → 0 ≤ nothing → nothing < rows.length → TapeOk (b + 100) tp' → k (.nw (.lst [rowsT rows, .tup [tI rules, tI nums], .int nothing])) tp'
def P__law_turned : XF := fun ts k => ∃ (many : Nat) (rows : List (List Int)) (at' rule value : Int), ts = [rowsT rows, .int at', .int rule, .int value] ∧ rows.length ≤ 1000 ∧ Wide many rows ∧ many ≤ 6 ∧ 0 ≤ at' ∧ at' < rows.length ∧ 0 ≤ rule ∧ rule < many ∧
  ∀ rows', Wide many rows' → rows'.length = rows.length → k (.fr (rowsT rows'))
def P__law_spoilt : XFT := fun ts tp k => ∃ (many : Nat) (total : Nat) (rules nums : List Int) (nothing : Int) (b : Nat), ts = [.int many, .int total, .tup [tI rules, tI nums], .int nothing] ∧ many ≤ 6 ∧ total ≤ 200 ∧ nums.length = rules.length ∧ 1 ≤ rules.length ∧ rules.length ≤ 6 ∧ InR many rules ∧ TapeOk b tp ∧ b + 5 ≤ Mx ∧
  ∀ (things : List T) (tp' : List T), T.oks things = true → (∀ t ∈ things, small2 t) → things.length ≤ 60 → 1 ≤ things.length → TapeOk (b + 5) tp' → k (.nw (.lst things)) tp'
def P__law_said : XF := fun ts k => ∃ a b : Bool, ts = [.bl a, .bl b] ∧ k (.fr (.bl (decide (a = b))))
def P__law_bars : XFT := fun ts tp k => ∃ (many : Nat) (b : Nat), ts = [.int many] ∧ 1 ≤ many ∧ many ≤ 6 ∧ TapeOk b tp ∧ b + 200 ≤ Mx ∧ ∀ tp', TapeOk (b + 200) tp' → k (.fr (.bl true)) tp'
def P__law_fences : XFT := P__law_bars
def P__law_families : XFT := P__law_bars
/-! ### families -/
def setsF (most : Int) : Option T → List T → Bool
  | _, [] => true
  | none, t :: r => asc most t && setsF most (some t) r
  | some a, t :: r => (asc most t && !tle (toI t) (toI a)) && setsF most (some t) r
def setsB (most : Int) : T → Bool
  | .tup ts => setsF most none ts
  | _ => false
def uni (a b : List Int) : List Int := srt (a ++ b.filter fun r => decide (r ∉ a))
def wo (a : List Int) (r : Int) : List Int := a.filter fun o => decide (o ≠ r)
def full (many : Nat) : List Int := (List.range many).map fun (i : Nat) => (i : Int)
def hasU (nss : List (List Int)) (ns : List Int) : Bool := ns.isEmpty || ns.any fun r => decide (wo ns r ∈ nss)
def pairU (nss : List (List Int)) : List (List Int) → Option (List Int × List Int)
  | [] => none
  | a :: r => match r.find? fun b => decide (uni a b ∉ nss) with
    | some b => some (a, b)
    | none => pairU nss r
def fault (many : Nat) (nss : List (List Int)) : T :=
  if [] ∉ nss then .tup [.str "empty"] else if full many ∉ nss then .tup [.str "all"] else
  match nss.find? fun ns => !hasU nss ns with
  | some ns => .tup [.str "reach", tI ns]
  | none => match pairU nss nss with
    | some (a, b) => .tup [.str "union", tI a, tI b]
    | none => .non
def toN : T → List (List Int)
  | .tup ts => ts.map toI
  | _ => []
def faultT (many : Nat) (t : T) : T := if setsB ((many : Int) - 1) t = true then fault many (toN t) else .tup [.str "order"]
def P_are_sets : XF := fun ts k => ∃ (many : Int) (t : T), ts = [.int many, t] ∧ t.ok = true ∧ k (.fr (.bl (setsB (many - 1) t)))
def P_union_of : XF := fun ts k => ∃ a b : List Int, ts = [tI a, tI b] ∧ a.length ≤ 1000 ∧ b.length ≤ 1000 ∧ k (.fr (tI (uni a b)))
def P_without : XF := fun ts k => ∃ (a : List Int) (r : Int), ts = [tI a, .int r] ∧ a.length ≤ 1000 ∧ k (.fr (tI (wo a r)))
def P_family_fault : XF := fun ts k => ∃ (many : Nat) (t : T), ts = [.int many, t] ∧ t.ok = true ∧ smallT t ∧ many ≤ 6 ∧ k (.fr (faultT many t))
def P__law_fault : XF := fun ts k => ∃ (many : Nat) (t : T), ts = [.int many, t] ∧ t.ok = true ∧ small2 t ∧ many ≤ 6 ∧ k (.fr (faultT many t))
def bitv (r : Int) : Int := 2 ^ r.toNat
def maskZ (ns : List Int) : Int := (ns.map bitv).sum
def P__law_mask : XF := fun ts k => ∃ ns : List Int, ts = [tI ns] ∧ InR 6 ns ∧ k (.fr (.int (maskZ ns)))
structure Fam (many : Nat) (nss : List (List Int)) : Prop where
  fl : faultT many (.tup (nss.map tI)) = .non
  len : nss.length ≤ 64
  h0 : nss[0]? = some []
  hr : ∀ ns ∈ nss, InR many ns ∧ ns.length ≤ 6
def P__law_family : XFT := fun ts tp k => ∃ (many : Nat) (count : Int) (b : Nat), ts = [.int many, .int count] ∧ 1 ≤ many ∧ many ≤ 6 ∧ 1 ≤ count ∧ count ≤ 6 ∧ TapeOk b tp ∧ b + 40 ≤ Mx ∧ ∀ (nss : List (List Int)) (tp' : List T), Fam many nss → TapeOk (b + 40) tp' → k (.fr (.tup (nss.map tI))) tp'
def P__law_bent : XFT := fun ts tp k => ∃ (many : Nat) (nss : List (List Int)) (b : Nat), ts = [.int many, .tup (nss.map tI)] ∧ 1 ≤ many ∧ many ≤ 6 ∧ Fam many nss ∧ TapeOk b tp ∧ b + 20 ≤ Mx ∧
  ∀ (things : List T) (tp' : List T), T.oks things = true → (∀ t ∈ things, small2 t) → things.length ≤ 60 → TapeOk (b + 20) tp' → k (.nw (.lst things)) tp'
def P__law_same : XF := fun ts k => ∃ (f : T), ts = [f, f] ∧ (f = .non ∨ ∃ (w : Str) (nss : List (List Int)), f = .tup (.str w :: nss.map tI) ∧ nss.length ≤ 1000 ∧ ∀ ns ∈ nss, ns.length ≤ 1000) ∧ k (.fr (.bl true))
end Pf

namespace Pf
open PySem PySem.Spec PyProof.Rows L2 TL
def x_is_integer : XS := xRet (xAndV (xIsi "int" (xVar 0)) (xNotV (xB (xIsi "bool" (xVar 0)))))
def x_integer_within : XS := xRet (xAndV (xCall P_is_integer (xCons (xVar 0) (xNil))) (xChain leR leR (xVar 1) (xVar 0) (xVar 2)))
def x_are_ascending : XS := xSeq (xIfS (xNot (xTru (xIsi "tuple" (xVar 0)))) (xRet (xC (.bl false))) (xNext))
  (xSeq (xSet 2 (xUn negR (xC (.int 1))))
  (xSeq (xFor (xiL (xVar 0)) (xgN 3) (xSeq (xIfS (xNot (xTru (xCall P_integer_within (xCons (xVar 3) (xCons (xOp addR (xVar 2) (xC (.int 1))) (xCons (xVar 1) (xNil))))))) (xRet (xC (.bl false))) (xNext))
  (xSet 2 (xVar 3))))
  (xRet (xC (.bl true)))))
def x_is_nowhere_worse : XS := xSeq (xIfS (xB (xOp geR (xOp ixR (xVar 0) (xVar 1)) (xC (.int 0)))) (xRet (xC (.bl false))) (xNext))
  (xSeq (xFor (xiE (xCons (xVar 0) (xNil))) (xg2 3 4) (xIfS (xAnd (xB (xOp gtR (xVar 4) (xC (.int 0)))) (xB (xOp (inR true) (xVar 3) (xVar 2)))) (xRet (xC (.bl false))) (xNext)))
  (xRet (xC (.bl true))))
def x_are_row_papers : XS := xSeq (xIfS (xOr (xNot (xTru (xIsi "tuple" (xVar 3)))) (xB (xOp (eqR true) (xCB lenR (xCons (xVar 3) xNil)) (xCB lenR (xCons (xVar 1) xNil))))) (xRet (xC (.bl false))) (xNext))
  (xSeq (xFor (xiZ (xCons (xVar 1) (xCons (xVar 3) (xNil)))) (xg2 4 5) (xIfS (xOr (xNot (xTru (xCall P_integer_within (xCons (xVar 5) (xCons (xC (.int 0)) (xCons (xOp subR (xCB lenR (xCons (xVar 0) xNil)) (xC (.int 1))) (xNil))))))) (xNot (xTru (xCall P_is_nowhere_worse (xCons (xOp ixR (xVar 0) (xVar 5)) (xCons (xVar 4) (xCons (xVar 2) (xNil)))))))) (xRet (xC (.bl false))) (xNext)))
  (xRet (xC (.bl true))))
def x_is_row_bar : XS := xSeq (xIfS (xOr (xNot (xTru (xIsi "tuple" (xVar 2)))) (xB (xOp (eqR true) (xCB lenR (xCons (xVar 2) xNil)) (xC (.int 2))))) (xRet (xC (.bl false))) (xNext))
  (xSeq (xUnp (xVar 2) (xg2 3 4))
  (xSeq (xIfS (xOr (xNot (xTru (xCall P_are_ascending (xCons (xVar 3) (xCons (xOp subR (xVar 0) (xC (.int 1))) (xNil)))))) (xNot (xTru (xVar 3)))) (xRet (xC (.bl false))) (xNext))
  (xRet (xCall P_are_row_papers (xCons (xVar 1) (xCons (xVar 3) (xCons (xVar 3) (xCons (xVar 4) (xNil)))))))))
def x_is_fence_set : XS := xSeq (xIfS (xNot (xTru (xCall P_are_ascending (xCons (xVar 3) (xCons (xOp subR (xVar 0) (xC (.int 1))) (xNil)))))) (xRet (xC (.bl false))) (xNext))
  (xSeq (xFor (xiL (xVar 3)) (xgN 4) (xIfS (xB (xOp (inR false) (xVar 4) (xVar 1))) (xRet (xC (.bl false))) (xNext)))
  (xSeq (xFor (xiL (xVar 2)) (xgN 4) (xIfS (xB (xOp (inR true) (xVar 4) (xVar 3))) (xRet (xC (.bl false))) (xNext)))
  (xRet (xC (.bl true)))))
def x_are_sets : XS := xSeq (xIfS (xNot (xTru (xIsi "tuple" (xVar 1)))) (xRet (xC (.bl false))) (xNext))
  (xSeq (xSet 2 (xC .non))
  (xSeq (xFor (xiL (xVar 1)) (xgN 3) (xSeq (xIfS (xOr (xNot (xTru (xCall P_are_ascending (xCons (xVar 3) (xCons (xOp subR (xVar 0) (xC (.int 1))) (xNil)))))) (xAnd (xB (xOp (isX true) (xVar 2) (xC .non))) (xB (xOp leR (xVar 3) (xVar 2))))) (xRet (xC (.bl false))) (xNext))
  (xSet 2 (xVar 3))))
  (xRet (xC (.bl true)))))
def x_union_of : XS := xRet (xCB tupR (xCons (xFz (xCN sortUR (xCons (xOp addR (xVar 0) (xCB tupR (xCons (xFz (xLc (xiL (xVar 1)) 2 (xB (xOp (inR true) (xVar 2) (xVar 0))) (xVar 2))) xNil))) xNil))) xNil))
def x_without : XS := xRet (xCB tupR (xCons (xFz (xLc (xiL (xVar 0)) 2 (xB (xOp (eqR true) (xVar 2) (xVar 1))) (xVar 2))) xNil))
def x_family_fault : XS := xSeq (xIfS (xNot (xTru (xCall P_are_sets (xCons (xVar 0) (xCons (xVar 1) (xNil)))))) (xRet (xTup (xCons (xC (.str "order")) (xNil)))) (xNext))
  (xSeq (xSetW 2 (xDcT (xiL (xVar 1)) 3))
  (xSeq (xIfS (xB (xInT true 2 (xTup (xNil)))) (xRet (xTup (xCons (xC (.str "empty")) (xNil)))) (xNext))
  (xSeq (xIfS (xB (xInT true 2 (xTupRg (xRg1 (xVar 0))))) (xRet (xTup (xCons (xC (.str "all")) (xNil)))) (xNext))
  (xSeq (xFor (xiL (xVar 1)) (xgN 3) (xIfS (xAnd (xTru (xVar 3)) (xNot (xTru (xFz (xLc (xiL (xVar 3)) 7 (xB (xInT false 2 (xCall P_without (xCons (xVar 3) (xCons (xVar 7) (xNil)))))) (xVar 7)))))) (xRet (xTup (xCons (xC (.str "reach")) (xCons (xVar 3) (xNil))))) (xNext)))
  (xSeq (xFor (xiE (xCons (xVar 1) (xNil))) (xg2 4 5) (xFor (xiL (xSl slR (xVar 1) (xPart (xOp addR (xVar 4) (xC (.int 1)))) (xNo))) (xgN 6) (xIfS (xB (xInT true 2 (xCall P_union_of (xCons (xVar 5) (xCons (xVar 6) (xNil)))))) (xRet (xTup (xCons (xC (.str "union")) (xCons (xVar 5) (xCons (xVar 6) (xNil)))))) (xNext))))
  (xRet (xC .non)))))))
def x__law_tape : XS := xSeq (xSet 1 (xOp powR (xC (.int 10)) (xC (.int 60))))
  (xSeq (xSet 2 (xOp mulR (xOp mulR (xOp mulR (xOp mulR (xOp mulR (xVar 1) (xVar 1)) (xVar 1)) (xVar 1)) (xVar 1)) (xVar 1)))
  (xSeq (xSet 3 (xC (.int 0)))
  (xSeq (xSetW 4 (xLc (xiL (xSl slR (xVar 0) (xNo) (xPart (xC (.int 63))))) 5 (xYes) (xOp modR (xCB intCR (xCons (xVar 5) xNil)) (xC (.int 1000033)))))
  (xFreeze 4 (xSeq (xFor (xiL (xSl slR (xVar 0) (xNo) (xPart (xC (.int 63))))) (xgN 5) (xIfS (xAnd (xB (xOp (eqR false) (xVar 3) (xC (.int 0)))) (xB (xOp geR (xCB intCR (xCons (xVar 5) xNil)) (xC (.int 1000000000000000000))))) (xSet 3 (xOp modR (xCB intCR (xCons (xVar 5) xNil)) (xVar 2))) (xNext)))
  (xRetW (xLst (xCons (xC (.int 0)) (xCons (xVar 3) (xCons (xOp addR (xVar 4) (xFz (xLst (xCons (xOp addR (xOp modR (xCB lenR (xCons (xVar 0) xNil)) (xC (.int 61))) (xC (.int 3))) (xNil))))) (xNil)))))))))))
def x__law_draw : XS := xSeq (xStoT 0 (xC (.int 0)) (xOp addR (xIxT 0 (xC (.int 0))) (xC (.int 1))))
  (xSeq (xIfS (xB (xOp ltR (xVar 1) (xC (.int 2)))) (xRet (xC (.int 0))) (xNext))
  (xSeq (xIfS (xB (xOp gtR (xIxT 0 (xC (.int 1))) (xC (.int 0)))) (xSeq (xSet 2 (xOp modR (xCB intCR (xCons (xIxT 0 (xC (.int 1))) xNil)) (xVar 1)))
  (xSeq (xStoT 0 (xC (.int 1)) (xOp divR (xIxT 0 (xC (.int 1))) (xVar 1)))
  (xRet (xVar 2)))) (xNext))
  (xSeq (xSet 3 (xIxT 0 (xC (.int 2))))
  (xSeq (xSet 4 (xCB intCR (xCons (xIxT 0 (xC (.int 0))) xNil)))
  (xSeq (xSet 5 (xOp ixR (xVar 3) (xOp modR (xVar 4) (xCB lenR (xCons (xVar 3) xNil)))))
  (xSeq (xSet 6 (xOp modR (xCB intCR (xCons (xOp addR (xOp addR (xOp mulR (xVar 5) (xC (.int 40503))) (xOp mulR (xVar 4) (xC (.int 52711)))) (xC (.int 977))) xNil)) (xC (.int 2147483629))))
  (xSeq (xSet 6 (xOp modR (xCB intCR (xCons (xOp addR (xOp addR (xOp mulR (xVar 6) (xC (.int 69069))) (xOp mulR (xOp mulR (xVar 4) (xVar 4)) (xC (.int 17)))) (xOp mulR (xVar 5) (xC (.int 5)))) xNil)) (xC (.int 2147483629))))
  (xRet (xOp modR (xCB intCR (xCons (xOp divR (xVar 6) (xC (.int 13))) xNil)) (xVar 1))))))))))
def x__law_some : XS := xSeq (xSetW 3 (xCN listR (xCons (xVar 1) xNil)))
  (xSeq (xSetW 4 (xLst (xNil)))
  (xSeq (xFor (xiL (xVar 1)) (xgN 5) (xIfS (xB (xOp (eqR false) (xCallT P__law_draw (xCons (xVar 0) (xCons (xC (.int 2)) (xNil)))) (xC (.int 1)))) (xSeq (xDrop (xApp 4 (xVar 5)))
  (xDrop (xRem 3 (xVar 5)))) (xNext)))
  (xSeq (xFor (xiR1 (xCons (xVar 2) (xNil))) (xgN 6) (xIfS (xAnd (xB (xOp ltR (xLenO 4) (xVar 2))) (xB (xOp gtR (xLenO 3) (xC (.int 0))))) (xDrop (xApp 4 (xPopAt 3 (xCallT P__law_draw (xCons (xVar 0) (xCons (xLenO 3) (xNil))))))) (xNext)))
  (xFreeze 4 (xRet (xCB tupR (xCons (xFz (xCN sortUR (xCons (xVar 4) xNil))) xNil)))))))
def x__law_whole : XS := xRet (xAndV (xIsi "int" (xVar 0)) (xNotV (xB (xIsi "bool" (xVar 0)))))
def x__law_set : XS := xSeq (xIfS (xNot (xTru (xIsi "tuple" (xVar 1)))) (xRet (xC (.bl false))) (xNext))
  (xSeq (xFor (xiR1 (xCons (xCB lenR (xCons (xVar 1) xNil)) (xNil))) (xgN 2) (xSeq (xIfS (xOr (xNot (xTru (xCall P__law_whole (xCons (xOp ixR (xVar 1) (xVar 2)) (xNil))))) (xOr (xB (xOp ltR (xOp ixR (xVar 1) (xVar 2)) (xC (.int 0)))) (xB (xOp geR (xOp ixR (xVar 1) (xVar 2)) (xVar 0))))) (xRet (xC (.bl false))) (xNext))
  (xIfS (xAnd (xB (xOp gtR (xVar 2) (xC (.int 0)))) (xB (xOp geR (xOp ixR (xVar 1) (xOp subR (xVar 2) (xC (.int 1)))) (xOp ixR (xVar 1) (xVar 2))))) (xRet (xC (.bl false))) (xNext))))
  (xRet (xC (.bl true))))
def x__law_paper : XS := xSeq (xIfS (xOr (xNot (xTru (xIsi "tuple" (xVar 4)))) (xB (xOp (eqR true) (xCB lenR (xCons (xVar 4) xNil)) (xC (.int 2))))) (xRet (xC (.bl false))) (xNext))
  (xSeq (xSet 5 (xOp ixR (xVar 4) (xC (.int 0))))
  (xSeq (xSet 6 (xOp ixR (xVar 4) (xC (.int 1))))
  (xSeq (xIfS (xOr (xNot (xTru (xCall P__law_set (xCons (xVar 0) (xCons (xVar 5) (xNil)))))) (xNot (xTru (xIsi "tuple" (xVar 6))))) (xRet (xC (.bl false))) (xNext))
  (xSeq (xIfS (xOr (xB (xOp (eqR false) (xCB lenR (xCons (xVar 5) xNil)) (xC (.int 0)))) (xB (xOp (eqR true) (xCB lenR (xCons (xVar 6) xNil)) (xCB lenR (xCons (xVar 5) xNil))))) (xRet (xC (.bl false))) (xNext))
  (xSeq (xFor (xiL (xVar 3)) (xgN 7) (xIfS (xB (xOp (inR true) (xVar 7) (xVar 5))) (xRet (xC (.bl false))) (xNext)))
  (xSeq (xFor (xiL (xVar 2)) (xgN 7) (xIfS (xB (xOp (inR false) (xVar 7) (xVar 5))) (xRet (xC (.bl false))) (xNext)))
  (xSeq (xFor (xiR1 (xCons (xCB lenR (xCons (xVar 5) xNil)) (xNil))) (xgN 8) (xSeq (xSet 9 (xOp ixR (xVar 6) (xVar 8)))
  (xSeq (xIfS (xOr (xNot (xTru (xCall P__law_whole (xCons (xVar 9) (xNil))))) (xOr (xB (xOp ltR (xVar 9) (xC (.int 0)))) (xB (xOp geR (xVar 9) (xCB lenR (xCons (xVar 1) xNil)))))) (xRet (xC (.bl false))) (xNext))
  (xSeq (xSet 10 (xOp ixR (xVar 1) (xVar 9)))
  (xSeq (xIfS (xB (xOp geR (xOp ixR (xVar 10) (xOp ixR (xVar 5) (xVar 8))) (xC (.int 0)))) (xRet (xC (.bl false))) (xNext))
  (xFor (xiR1 (xCons (xVar 0) (xNil))) (xgN 7) (xIfS (xAnd (xB (xOp (inR true) (xVar 7) (xVar 5))) (xAnd (xB (xOp (inR true) (xVar 7) (xVar 2))) (xB (xOp gtR (xOp ixR (xVar 10) (xVar 7)) (xC (.int 0)))))) (xRet (xC (.bl false))) (xNext))))))))
  (xRet (xC (.bl true))))))))))
def x__law_made : XS := xSeq (xSetW 5 (xLst (xNil)))
  (xSeq (xFor (xiL (xVar 3)) (xgN 6) (xSeq (xSetW 7 (xLst (xNil)))
  (xSeq (xFor (xiR1 (xCons (xVar 1) (xNil))) (xgN 8) (xSeq (xSet 9 (xCallT P__law_draw (xCons (xVar 0) (xCons (xOp addR (xVar 4) (xC (.int 1))) (xNil)))))
  (xIfS (xB (xOp (eqR false) (xVar 8) (xVar 6))) (xDrop (xApp 7 (xOp subR (xUn negR (xC (.int 1))) (xOp modR (xCB intCR (xCons (xVar 9) xNil)) (xVar 4))))) (xIfS (xB (xOp (inR false) (xVar 8) (xVar 2))) (xDrop (xApp 7 (xOp ixR (xFz (xLst (xCons (xVar 9) (xCons (xOp addR (xC (.int 1)) (xOp modR (xCB intCR (xCons (xVar 9) xNil)) (xVar 4))) (xCons (xUn negR (xVar 9)) (xNil)))))) (xCallT P__law_draw (xCons (xVar 0) (xCons (xC (.int 3)) (xNil))))))) (xIfS (xB (xOp (inR false) (xVar 8) (xVar 3))) (xDrop (xApp 7 (xOp ixR (xFz (xLst (xCons (xVar 9) (xCons (xUn negR (xVar 9)) (xCons (xC (.int 0)) (xNil)))))) (xCallT P__law_draw (xCons (xVar 0) (xCons (xC (.int 3)) (xNil))))))) (xDrop (xApp 7 (xOp ixR (xFz (xLst (xCons (xC (.int 0)) (xCons (xUn negR (xVar 9)) (xNil))))) (xCallT P__law_draw (xCons (xVar 0) (xCons (xC (.int 2)) (xNil))))))))))))
  (xFreeze 7 (xDrop (xApp 5 (xCB tupR (xCons (xVar 7) xNil))))))))
  (xRetO 5))
def x__law_world : XS := xSeq (xSet 4 (xOp ixR (xFz (xLst (xCons (xC (.int 1)) (xCons (xC (.int 3)) (xCons (xC (.int 12)) (xCons (xC (.int 1000000)) (xNil))))))) (xCallT P__law_draw (xCons (xVar 0) (xCons (xC (.int 4)) (xNil))))))
  (xSeq (xSet 5 (xOp ixR (xFz (xLst (xCons (xC (.int 7)) (xCons (xC (.int 9)) (xCons (xC (.int 13)) (xCons (xC (.int 200)) (xNil))))))) (xCallT P__law_draw (xCons (xVar 0) (xCons (xC (.int 4)) (xNil))))))
  (xSeq (xSet 6 (xCallT P__law_draw (xCons (xVar 0) (xCons (xC (.int 50)) (xNil)))))
  (xSeq (xSet 7 (xOp addR (xC (.int 1)) (xCallT P__law_draw (xCons (xVar 0) (xCons (xC (.int 50)) (xNil))))))
  (xSeq (xSetW 8 (xLst (xNil)))
  (xSeq (xFor (xiR1 (xCons (xVar 5) (xNil))) (xgN 9) (xSeq (xSetW 10 (xLc (xiR1 (xCons (xVar 1) (xNil))) 14 (xYes) (xOp subR (xOp modR (xCB intCR (xCons (xOp addR (xOp addR (xOp mulR (xVar 6) (xOp addR (xVar 14) (xC (.int 3)))) (xOp mulR (xOp mulR (xVar 7) (xOp addR (xVar 9) (xC (.int 1)))) (xOp addR (xOp mulR (xVar 14) (xC (.int 2))) (xC (.int 5))))) (xOp mulR (xVar 9) (xVar 9))) xNil)) (xOp addR (xOp mulR (xC (.int 2)) (xVar 4)) (xC (.int 1)))) (xVar 4))))
  (xFreeze 10 (xDrop (xApp 8 (xCB tupR (xCons (xVar 10) xNil)))))))
  (xSeq (xSetW 11 (xLstRg (xRg1 (xVar 5))))
  (xSeq (xSet 12 (xPopAt 11 (xCallT P__law_draw (xCons (xVar 0) (xCons (xLenO 11) (xNil))))))
  (xSeq (xSto 8 (xVar 12) (xCB tupR (xCons (xOp mulR (xFz (xLst (xCons (xC (.int 0)) (xNil)))) (xVar 1)) xNil)))
  (xSeq (xSetW 13 (xLst (xNil)))
  (xSeq (xFor (xiL (xCallT P__law_made (xCons (xVar 0) (xCons (xVar 1) (xCons (xVar 2) (xCons (xVar 3) (xCons (xVar 4) (xNil)))))))) (xgN 10) (xSeq (xSet 9 (xPopAt 11 (xOp ixR (xFz (xLst (xCons (xC (.int 0)) (xCons (xOp subR (xLenO 11) (xC (.int 1))) (xCons (xCallT P__law_draw (xCons (xVar 0) (xCons (xLenO 11) (xNil)))) (xNil)))))) (xCallT P__law_draw (xCons (xVar 0) (xCons (xC (.int 3)) (xNil)))))))
  (xSeq (xSto 8 (xVar 9) (xVar 10))
  (xDrop (xApp 13 (xVar 9))))))
  (xFreeze 8 (xFreeze 13 (xRetW (xLst (xCons (xCB tupR (xCons (xVar 8) xNil)) (xCons (xTup (xCons (xVar 3) (xCons (xCB tupR (xCons (xVar 13) xNil)) (xNil)))) (xCons (xVar 12) (xNil))))))))))))))))))
def x__law_turned : XS := xSeq (xSetW 4 (xCN listR (xCons (xVar 0) xNil)))
  (xSeq (xSetW 5 (xCN listR (xCons (xIxO 4 (xVar 1)) xNil)))
  (xSeq (xSto 5 (xVar 2) (xVar 3))
  (xFreeze 5 (xSeq (xSto 4 (xVar 1) (xCB tupR (xCons (xVar 5) xNil)))
  (xFreeze 4 (xRet (xCB tupR (xCons (xVar 4) xNil))))))))
def x__law_spoilt : XS := xSeq (xSet 5 (xOp ixR (xVar 3) (xC (.int 0))))
  (xSeq (xSet 6 (xOp ixR (xVar 3) (xC (.int 1))))
  (xSeq (xSet 7 (xCallT P__law_draw (xCons (xVar 0) (xCons (xCB lenR (xCons (xVar 5) xNil)) (xNil)))))
  (xSeq (xSetW 8 (xLst (xNil)))
  (xSeq (xFor (xiL (xFz (xLst (xCons (xVar 4) (xCons (xCallT P__law_draw (xCons (xVar 0) (xCons (xVar 2) (xNil)))) (xCons (xVar 2) (xCons (xUn negR (xC (.int 1))) (xCons (xC .non) (xCons (xC (.bl true)) (xCons (xC (.bl false)) (xCons (xC (.str "0")) (xCons (xTup (xCons (xOp ixR (xVar 6) (xVar 7)) (xNil))) (xCons (xOp powR (xC (.int 10)) (xC (.int 30))) (xNil)))))))))))))) (xgN 9) (xSeq (xSetW 10 (xCN listR (xCons (xVar 6) xNil)))
  (xSeq (xSto 10 (xVar 7) (xVar 9))
  (xFreeze 10 (xDrop (xApp 8 (xTup (xCons (xVar 5) (xCons (xCB tupR (xCons (xVar 10) xNil)) (xNil))))))))))
  (xSeq (xDrop (xApp 8 (xTup (xCons (xOp addR (xSl slR (xVar 5) (xNo) (xPart (xVar 7))) (xSl slR (xVar 5) (xPart (xOp addR (xVar 7) (xC (.int 1)))) (xNo))) (xCons (xOp addR (xSl slR (xVar 6) (xNo) (xPart (xVar 7))) (xSl slR (xVar 6) (xPart (xOp addR (xVar 7) (xC (.int 1)))) (xNo))) (xNil))))))
  (xSeq (xDrop (xApp 8 (xTup (xCons (xOp addR (xSl slR (xVar 5) (xNo) (xPart (xVar 7))) (xSl slR (xVar 5) (xPart (xOp addR (xVar 7) (xC (.int 1)))) (xNo))) (xCons (xVar 6) (xNil))))))
  (xSeq (xDrop (xApp 8 (xTup (xCons (xVar 5) (xCons (xOp addR (xSl slR (xVar 6) (xNo) (xPart (xVar 7))) (xSl slR (xVar 6) (xPart (xOp addR (xVar 7) (xC (.int 1)))) (xNo))) (xNil))))))
  (xSeq (xDrop (xApp 8 (xTup (xCons (xVar 5) (xCons (xOp addR (xVar 6) (xTup (xCons (xVar 4) (xNil)))) (xNil))))))
  (xSeq (xDrop (xApp 8 (xTup (xCons (xVar 5) (xCons (xOp addR (xVar 6) (xTup (xCons (xOp ixR (xVar 6) (xVar 7)) (xNil)))) (xNil))))))
  (xSeq (xDrop (xApp 8 (xTup (xCons (xRev (xVar 5)) (xCons (xRev (xVar 6)) (xNil))))))
  (xSeq (xDrop (xApp 8 (xTup (xCons (xVar 5) (xCons (xRev (xVar 6)) (xNil))))))
  (xSeq (xDrop (xApp 8 (xTup (xCons (xOp addR (xSl slR (xVar 5) (xNo) (xPart (xOp addR (xVar 7) (xC (.int 1))))) (xSl slR (xVar 5) (xPart (xVar 7)) (xNo))) (xCons (xOp addR (xSl slR (xVar 6) (xNo) (xPart (xOp addR (xVar 7) (xC (.int 1))))) (xSl slR (xVar 6) (xPart (xVar 7)) (xNo))) (xNil))))))
  (xSeq (xDrop (xApp 8 (xTup (xCons (xOp addR (xVar 5) (xTup (xCons (xVar 1) (xNil)))) (xCons (xOp addR (xVar 6) (xTup (xCons (xOp ixR (xVar 6) (xVar 7)) (xNil)))) (xNil))))))
  (xSeq (xDrop (xApp 8 (xTup (xCons (xOp addR (xTup (xCons (xUn negR (xC (.int 1))) (xNil))) (xVar 5)) (xCons (xOp addR (xTup (xCons (xOp ixR (xVar 6) (xC (.int 0))) (xNil))) (xVar 6)) (xNil))))))
  (xSeq (xSetW 11 (xLc (xiR1 (xCons (xVar 1) (xNil))) 12 (xB (xOp (inR true) (xVar 12) (xVar 5))) (xVar 12)))
  (xFreeze 11 (xSeq (xIfS (xB (xOp gtR (xCB lenR (xCons (xVar 11) xNil)) (xC (.int 0)))) (xSeq (xSet 12 (xOp ixR (xVar 11) (xCallT P__law_draw (xCons (xVar 0) (xCons (xCB lenR (xCons (xVar 11) xNil)) (xNil))))))
  (xSeq (xSet 13 (xFz (xCN sortUR (xCons (xOp addR (xFz (xCN listR (xCons (xVar 5) xNil))) (xFz (xLst (xCons (xVar 12) (xNil))))) xNil))))
  (xSeq (xSet 14 (xIdx (xVar 13) (xVar 12)))
  (xSeq (xSet 9 (xOp ixR (xFz (xLst (xCons (xVar 4) (xCons (xCallT P__law_draw (xCons (xVar 0) (xCons (xVar 2) (xNil)))) (xCons (xOp ixR (xVar 6) (xVar 7)) (xNil)))))) (xCallT P__law_draw (xCons (xVar 0) (xCons (xC (.int 3)) (xNil))))))
  (xSeq (xDrop (xApp 8 (xTup (xCons (xCB tupR (xCons (xVar 13) xNil)) (xCons (xOp addR (xOp addR (xSl slR (xVar 6) (xNo) (xPart (xVar 14))) (xTup (xCons (xVar 9) (xNil)))) (xSl slR (xVar 6) (xPart (xVar 14)) (xNo))) (xNil))))))
  (xSeq (xSetW 10 (xCN listR (xCons (xVar 5) xNil)))
  (xSeq (xSto 10 (xVar 7) (xVar 12))
  (xFreeze 10 (xDrop (xApp 8 (xTup (xCons (xCB tupR (xCons (xFz (xCN sortUR (xCons (xVar 10) xNil))) xNil)) (xCons (xVar 6) (xNil)))))))))))))) (xNext))
  (xSeq (xDrop (xApp 8 (xTup (xCons (xCB tupR (xCons (xFz (xLc (xiL (xVar 5)) 12 (xYes) (xIf (xB (xOp (eqR false) (xVar 12) (xC (.int 1)))) (xC (.bl true)) (xVar 12)))) xNil)) (xCons (xVar 6) (xNil))))))
  (xSeq (xDrop (xApp 8 (xTup (xCons (xCB tupR (xCons (xFz (xLc (xiL (xVar 5)) 12 (xYes) (xIf (xB (xOp (eqR false) (xVar 12) (xC (.int 0)))) (xC (.bl false)) (xVar 12)))) xNil)) (xCons (xVar 6) (xNil))))))
  (xSeq (xDrop (xApp 8 (xTup (xCons (xCB tupR (xCons (xFz (xLc (xiL (xVar 5)) 12 (xYes) (xCB strCR (xCons (xVar 12) xNil)))) xNil)) (xCons (xVar 6) (xNil))))))
  (xSeq (xDrop (xApp 8 (xTup (xCons (xVar 5) (xCons (xCB tupR (xCons (xFz (xLc (xiL (xVar 6)) 9 (xYes) (xIf (xB (xOp (eqR false) (xVar 9) (xC (.int 1)))) (xC (.bl true)) (xVar 9)))) xNil)) (xNil))))))
  (xSeq (xDrop (xApp 8 (xTup (xCons (xVar 5) (xCons (xCB tupR (xCons (xFz (xLc (xiL (xVar 6)) 9 (xYes) (xIf (xB (xOp (eqR false) (xVar 9) (xC (.int 0)))) (xC (.bl false)) (xVar 9)))) xNil)) (xNil))))))
  (xSeq (xDrop (xApp 8 (xTup (xCons (xVar 5) (xCons (xCB tupR (xCons (xFz (xLc (xiL (xVar 6)) 9 (xYes) (xOp subR (xVar 9) (xVar 2)))) xNil)) (xNil))))))
  (xSeq (xDrop (xApp 8 (xFz (xLst (xCons (xVar 5) (xCons (xVar 6) (xNil)))))))
  (xSeq (xDrop (xApp 8 (xTup (xCons (xFz (xCN listR (xCons (xVar 5) xNil))) (xCons (xVar 6) (xNil))))))
  (xSeq (xDrop (xApp 8 (xTup (xCons (xVar 5) (xCons (xFz (xCN listR (xCons (xVar 6) xNil))) (xNil))))))
  (xSeq (xDrop (xApp 8 (xTup (xCons (xVar 5) (xCons (xVar 6) (xCons (xTup (xNil)) (xNil)))))))
  (xSeq (xDrop (xApp 8 (xTup (xCons (xVar 6) (xCons (xVar 5) (xNil))))))
  (xSeq (xDrop (xApp 8 (xTup (xCons (xVar 5) (xNil)))))
  (xSeq (xDrop (xApp 8 (xTup (xCons (xTup (xNil)) (xCons (xTup (xNil)) (xNil))))))
  (xSeq (xDrop (xApp 8 (xTup (xNil))))
  (xSeq (xDrop (xApp 8 (xC .non)))
  (xSeq (xDrop (xApp 8 (xVar 5)))
  (xRetO 8))))))))))))))))))))))))))))))))))
def x__law_said : XS := xSeq (xIfS (xTru (xVar 1)) (xRet (xOp (isX false) (xVar 0) (xC (.bl true)))) (xNext))
  (xRet (xOp (isX false) (xVar 0) (xC (.bl false))))
def x__law_bars : XS := xSeq (xSet 2 (xCallT P__law_some (xCons (xVar 0) (xCons (xFz (xLstRg (xRg1 (xVar 1)))) (xCons (xC (.int 1)) (xNil))))))
  (xSeq (xSet 3 (xCallT P__law_world (xCons (xVar 0) (xCons (xVar 1) (xCons (xTup (xNil)) (xCons (xVar 2) (xNil)))))))
  (xSeq (xSet 4 (xOp ixR (xVar 3) (xC (.int 0))))
  (xSeq (xSet 5 (xOp ixR (xVar 3) (xC (.int 1))))
  (xSeq (xIfS (xB (xOp (isX true) (xCall P_is_row_bar (xCons (xVar 1) (xCons (xVar 4) (xCons (xVar 5) (xNil))))) (xC (.bl true)))) (xRet (xC (.bl false))) (xNext))
  (xSeq (xFor (xiL (xCallT P__law_spoilt (xCons (xVar 0) (xCons (xVar 1) (xCons (xCB lenR (xCons (xVar 4) xNil)) (xCons (xVar 5) (xCons (xOp ixR (xVar 3) (xC (.int 2))) (xNil)))))))) (xgN 6) (xIfS (xNot (xTru (xCall P__law_said (xCons (xCall P_is_row_bar (xCons (xVar 1) (xCons (xVar 4) (xCons (xVar 6) (xNil))))) (xCons (xCall P__law_paper (xCons (xVar 1) (xCons (xVar 4) (xCons (xTup (xNil)) (xCons (xTup (xNil)) (xCons (xVar 6) (xNil))))))) (xNil)))))) (xRet (xC (.bl false))) (xNext)))
  (xSeq (xSet 7 (xCallT P__law_draw (xCons (xVar 0) (xCons (xCB lenR (xCons (xVar 2) xNil)) (xNil)))))
  (xSeq (xSet 8 (xOp ixR (xOp ixR (xVar 5) (xC (.int 1))) (xVar 7)))
  (xSeq (xFor (xiR1 (xCons (xVar 1) (xNil))) (xgN 9) (xFor (xiL (xFz (xLst (xCons (xC (.int 1)) (xCons (xC (.int 0)) (xCons (xUn negR (xC (.int 1))) (xCons (xC (.int 1000000)) (xCons (xUn negR (xC (.int 1000000))) (xNil))))))))) (xgN 10) (xSeq (xSet 11 (xCall P__law_turned (xCons (xVar 4) (xCons (xVar 8) (xCons (xVar 9) (xCons (xVar 10) (xNil)))))))
  (xIfS (xNot (xTru (xCall P__law_said (xCons (xCall P_is_row_bar (xCons (xVar 1) (xCons (xVar 11) (xCons (xVar 5) (xNil))))) (xCons (xCall P__law_paper (xCons (xVar 1) (xCons (xVar 11) (xCons (xTup (xNil)) (xCons (xTup (xNil)) (xCons (xVar 5) (xNil))))))) (xNil)))))) (xRet (xC (.bl false))) (xNext)))))
  (xSeq (xIfS (xB (xOp (isX true) (xCall P_is_row_bar (xCons (xVar 1) (xCons (xTup (xNil)) (xCons (xVar 5) (xNil))))) (xC (.bl false)))) (xRet (xC (.bl false))) (xNext))
  (xRet (xOp (isX false) (xCall P_is_row_bar (xCons (xVar 1) (xCons (xVar 4) (xCons (xVar 5) (xNil))))) (xC (.bl true)))))))))))))
def x__law_word : XS := xSeq (xSet 6 (xCall P__law_step (xCons (xVar 0) (xCons (xVar 1) (xCons (xVar 2) (xCons (xVar 3) (xCons (xVar 4) (xNil))))))))
  (xRet (xAndV (xOp (eqR false) (xOp ixR (xVar 6) (xC (.int 0))) (xC (.str "raised"))) (xAndV (xIsi "str" (xOp ixR (xVar 6) (xC (.int 1)))) (xOp (eqR false) (xOp ixR (xVar 6) (xC (.int 1))) (xVar 5)))))
def x__law_fences : XS := xSeq (xSet 2 (xTup (xNil)))
  (xSeq (xIfS (xB (xOp gtR (xVar 1) (xC (.int 1)))) (xSet 2 (xSl slR (xCallT P__law_some (xCons (xVar 0) (xCons (xFz (xLstRg (xRg1 (xVar 1)))) (xCons (xC (.int 0)) (xNil))))) (xNo) (xPart (xOp subR (xVar 1) (xC (.int 1)))))) (xNext))
  (xSeq (xSetW 3 (xLc (xiR1 (xCons (xVar 1) (xNil))) 16 (xB (xOp (inR true) (xVar 16) (xVar 2))) (xVar 16)))
  (xFreeze 3 (xSeq (xSet 4 (xCallT P__law_some (xCons (xVar 0) (xCons (xVar 3) (xCons (xC (.int 1)) (xNil))))))
  (xSeq (xSet 5 (xCallT P__law_some (xCons (xVar 0) (xCons (xFz (xCN listR (xCons (xVar 4) xNil))) (xCons (xC (.int 1)) (xNil))))))
  (xSeq (xSet 6 (xCallT P__law_world (xCons (xVar 0) (xCons (xVar 1) (xCons (xVar 2) (xCons (xVar 4) (xNil)))))))
  (xSeq (xSet 7 (xOp ixR (xVar 6) (xC (.int 0))))
  (xSeq (xSet 8 (xOp ixR (xVar 6) (xC (.int 1))))
  (xSeq (xIfS (xB (xOp (isX true) (xCall P_is_row_fence (xCons (xVar 1) (xCons (xVar 7) (xCons (xVar 2) (xCons (xVar 5) (xCons (xVar 8) (xNil))))))) (xC (.bl true)))) (xRet (xC (.bl false))) (xNext))
  (xSeq (xSetW 9 (xCallTN P__law_spoilt (xCons (xVar 0) (xCons (xVar 1) (xCons (xCB lenR (xCons (xVar 7) xNil)) (xCons (xVar 8) (xCons (xOp ixR (xVar 6) (xC (.int 2))) (xNil))))))))
  (xSeq (xIfS (xB (xOp gtR (xCB lenR (xCons (xVar 2) xNil)) (xC (.int 0)))) (xSeq (xSet 10 (xOp ixR (xVar 2) (xCallT P__law_draw (xCons (xVar 0) (xCons (xCB lenR (xCons (xVar 2) xNil)) (xNil))))))
  (xSeq (xSet 11 (xFz (xCN sortUR (xCons (xOp addR (xFz (xCN listR (xCons (xVar 4) xNil))) (xFz (xLst (xCons (xVar 10) (xNil))))) xNil))))
  (xSeq (xSet 12 (xIdx (xVar 11) (xVar 10)))
  (xDrop (xApp 9 (xTup (xCons (xCB tupR (xCons (xVar 11) xNil)) (xCons (xOp addR (xOp addR (xSl slR (xOp ixR (xVar 8) (xC (.int 1))) (xNo) (xPart (xVar 12))) (xTup (xCons (xOp ixR (xOp ixR (xVar 8) (xC (.int 1))) (xC (.int 0))) (xNil)))) (xSl slR (xOp ixR (xVar 8) (xC (.int 1))) (xPart (xVar 12)) (xNo))) (xNil))))))))) (xNext))
  (xFreeze 9 (xSeq (xFor (xiL (xVar 9)) (xgN 13) (xIfS (xNot (xTru (xCall P__law_said (xCons (xCall P_is_row_fence (xCons (xVar 1) (xCons (xVar 7) (xCons (xVar 2) (xCons (xVar 5) (xCons (xVar 13) (xNil))))))) (xCons (xCall P__law_paper (xCons (xVar 1) (xCons (xVar 7) (xCons (xVar 2) (xCons (xVar 5) (xCons (xVar 13) (xNil))))))) (xNil)))))) (xRet (xC (.bl false))) (xNext)))
  (xSeq (xSet 14 (xCallT P__law_draw (xCons (xVar 0) (xCons (xCB lenR (xCons (xVar 4) xNil)) (xNil)))))
  (xSeq (xSet 15 (xOp ixR (xOp ixR (xVar 8) (xC (.int 1))) (xVar 14)))
  (xSeq (xFor (xiR1 (xCons (xVar 1) (xNil))) (xgN 16) (xFor (xiL (xFz (xLst (xCons (xC (.int 1)) (xCons (xC (.int 0)) (xCons (xUn negR (xC (.int 1))) (xCons (xC (.int 1000000)) (xNil)))))))) (xgN 17) (xSeq (xSet 18 (xCall P__law_turned (xCons (xVar 7) (xCons (xVar 15) (xCons (xVar 16) (xCons (xVar 17) (xNil)))))))
  (xIfS (xNot (xTru (xCall P__law_said (xCons (xCall P_is_row_fence (xCons (xVar 1) (xCons (xVar 18) (xCons (xVar 2) (xCons (xVar 5) (xCons (xVar 8) (xNil))))))) (xCons (xCall P__law_paper (xCons (xVar 1) (xCons (xVar 18) (xCons (xVar 2) (xCons (xVar 5) (xCons (xVar 8) (xNil))))))) (xNil)))))) (xRet (xC (.bl false))) (xNext)))))
  (xSeq (xFor (xiL (xFz (xLst (xCons (xCallT P__law_some (xCons (xVar 0) (xCons (xVar 3) (xCons (xC (.int 1)) (xNil))))) (xCons (xCB tupR (xCons (xVar 3) xNil)) (xCons (xTup (xCons (xOp ixR (xVar 3) (xCallT P__law_draw (xCons (xVar 0) (xCons (xCB lenR (xCons (xVar 3) xNil)) (xNil))))) (xNil))) (xNil))))))) (xgN 19) (xIfS (xNot (xTru (xCall P__law_said (xCons (xCall P_is_row_fence (xCons (xVar 1) (xCons (xVar 7) (xCons (xVar 2) (xCons (xVar 19) (xCons (xVar 8) (xNil))))))) (xCons (xCall P__law_paper (xCons (xVar 1) (xCons (xVar 7) (xCons (xVar 2) (xCons (xVar 19) (xCons (xVar 8) (xNil))))))) (xNil)))))) (xRet (xC (.bl false))) (xNext)))
  (xSeq (xSet 20 (xSl slR (xVar 2) (xNo) (xPart (xCallT P__law_draw (xCons (xVar 0) (xCons (xOp addR (xCB lenR (xCons (xVar 2) xNil)) (xC (.int 1))) (xNil)))))))
  (xSeq (xIfS (xNot (xTru (xCall P__law_said (xCons (xCall P_is_row_fence (xCons (xVar 1) (xCons (xVar 7) (xCons (xVar 20) (xCons (xVar 5) (xCons (xVar 8) (xNil))))))) (xCons (xCall P__law_paper (xCons (xVar 1) (xCons (xVar 7) (xCons (xVar 20) (xCons (xVar 5) (xCons (xVar 8) (xNil))))))) (xNil)))))) (xRet (xC (.bl false))) (xNext))
  (xSeq (xSet 13 (xOp ixR (xFz (xLst (xCons (xVar 8) (xCons (xC .non) (xCons (xTup (xCons (xVar 4) (xCons (xTup (xNil)) (xNil)))) (xCons (xOp ixR (xVar 9) (xCallT P__law_draw (xCons (xVar 0) (xCons (xCB lenR (xCons (xVar 9) xNil)) (xNil))))) (xNil))))))) (xCallT P__law_draw (xCons (xVar 0) (xCons (xC (.int 4)) (xNil))))))
  (xSeq (xIfS (xOr (xNot (xTru (xCall P__law_word (xCons (xVar 1) (xCons (xVar 7) (xCons (xVar 2) (xCons (xTup (xNil)) (xCons (xVar 13) (xCons (xC (.str "empty")) (xNil)))))))))) (xNot (xTru (xCall P__law_word (xCons (xVar 1) (xCons (xVar 7) (xCons (xTup (xNil)) (xCons (xTup (xNil)) (xCons (xVar 13) (xCons (xC (.str "empty")) (xNil))))))))))) (xRet (xC (.bl false))) (xNext))
  (xSeq (xSet 21 (xCB tupR (xCons (xFz (xCN sortUR (xCons (xOp addR (xFz (xCN listR (xCons (xVar 2) xNil))) (xFz (xLst (xCons (xOp ixR (xVar 5) (xCallT P__law_draw (xCons (xVar 0) (xCons (xCB lenR (xCons (xVar 5) xNil)) (xNil))))) (xNil))))) xNil))) xNil)))
  (xSeq (xIfS (xOr (xNot (xTru (xCall P__law_word (xCons (xVar 1) (xCons (xVar 7) (xCons (xVar 21) (xCons (xVar 5) (xCons (xVar 13) (xCons (xC (.str "common")) (xNil)))))))))) (xNot (xTru (xCall P__law_word (xCons (xVar 1) (xCons (xVar 7) (xCons (xVar 5) (xCons (xVar 5) (xCons (xVar 8) (xCons (xC (.str "common")) (xNil))))))))))) (xRet (xC (.bl false))) (xNext))
  (xRet (xOp (isX false) (xCall P_is_row_fence (xCons (xVar 1) (xCons (xVar 7) (xCons (xVar 2) (xCons (xVar 5) (xCons (xVar 8) (xNil))))))) (xC (.bl true)))))))))))))))))))))))))))
def x__law_mask : XS := xSeq (xSet 1 (xC (.int 0)))
  (xSeq (xFor (xiL (xVar 0)) (xgN 2) (xSet 1 (xOp addR (xVar 1) (xOp ixR (xFz (xLst (xCons (xC (.int 1)) (xCons (xC (.int 2)) (xCons (xC (.int 4)) (xCons (xC (.int 8)) (xCons (xC (.int 16)) (xCons (xC (.int 32)) (xNil))))))))) (xVar 2)))))
  (xRet (xVar 1)))
def x__law_fault : XS := xSeq (xIfS (xNot (xTru (xIsi "tuple" (xVar 1)))) (xRet (xTup (xCons (xC (.str "order")) (xNil)))) (xNext))
  (xSeq (xFor (xiR1 (xCons (xCB lenR (xCons (xVar 1) xNil)) (xNil))) (xgN 2) (xSeq (xIfS (xNot (xTru (xCall P__law_set (xCons (xVar 0) (xCons (xOp ixR (xVar 1) (xVar 2)) (xNil)))))) (xRet (xTup (xCons (xC (.str "order")) (xNil)))) (xNext))
  (xIfS (xAnd (xB (xOp gtR (xVar 2) (xC (.int 0)))) (xB (xOp geR (xOp ixR (xVar 1) (xOp subR (xVar 2) (xC (.int 1)))) (xOp ixR (xVar 1) (xVar 2))))) (xRet (xTup (xCons (xC (.str "order")) (xNil)))) (xNext))))
  (xSeq (xSetW 3 (xLc (xiL (xVar 1)) 9 (xYes) (xCall P__law_mask (xCons (xVar 9) (xNil)))))
  (xFreeze 3 (xSeq (xDnewK 4)
  (xSeq (xFor (xiL (xVar 3)) (xgN 5) (xDputK 4 (xVar 5) (xC (.bl true))))
  (xSeq (xIfS (xB (xInK true 4 (xC (.int 0)))) (xRet (xTup (xCons (xC (.str "empty")) (xNil)))) (xNext))
  (xSeq (xIfS (xB (xInK true 4 (xOp ixR (xFz (xLst (xCons (xC (.int 0)) (xCons (xC (.int 1)) (xCons (xC (.int 3)) (xCons (xC (.int 7)) (xCons (xC (.int 15)) (xCons (xC (.int 31)) (xCons (xC (.int 63)) (xNil)))))))))) (xVar 0)))) (xRet (xTup (xCons (xC (.str "all")) (xNil)))) (xNext))
  (xSeq (xFor (xiR1 (xCons (xCB lenR (xCons (xVar 1) xNil)) (xNil))) (xgN 2) (xIfS (xB (xOp gtR (xOp ixR (xVar 3) (xVar 2)) (xC (.int 0)))) (xSeq (xSet 6 (xC (.bl false)))
  (xSeq (xFor (xiL (xOp ixR (xVar 1) (xVar 2))) (xgN 7) (xIfS (xB (xInK false 4 (xOp subR (xOp ixR (xVar 3) (xVar 2)) (xOp ixR (xFz (xLst (xCons (xC (.int 1)) (xCons (xC (.int 2)) (xCons (xC (.int 4)) (xCons (xC (.int 8)) (xCons (xC (.int 16)) (xCons (xC (.int 32)) (xNil))))))))) (xVar 7))))) (xSet 6 (xC (.bl true))) (xNext)))
  (xIfS (xNot (xTru (xVar 6))) (xRet (xTup (xCons (xC (.str "reach")) (xCons (xOp ixR (xVar 1) (xVar 2)) (xNil))))) (xNext)))) (xNext)))
  (xSeq (xFor (xiR1 (xCons (xCB lenR (xCons (xVar 1) xNil)) (xNil))) (xgN 2) (xFor (xiR2 (xCons (xOp addR (xVar 2) (xC (.int 1))) (xCons (xCB lenR (xCons (xVar 1) xNil)) (xNil)))) (xgN 8) (xIfS (xB (xInK true 4 (xOp orR (xOp ixR (xVar 3) (xVar 2)) (xOp ixR (xVar 3) (xVar 8))))) (xRet (xTup (xCons (xC (.str "union")) (xCons (xOp ixR (xVar 1) (xVar 2)) (xCons (xOp ixR (xVar 1) (xVar 8)) (xNil)))))) (xNext))))
  (xRet (xC .non)))))))))))
def x__law_family : XS := xSeq (xDnewK 3)
  (xSeq (xDputK 3 (xC (.int 0)) (xC (.bl true)))
  (xSeq (xFor (xiR1 (xCons (xVar 2) (xNil))) (xgN 4) (xSeq (xSetW 5 (xLstRg (xRg1 (xVar 1))))
  (xSeq (xSetW 6 (xLst (xCons (xC (.int 0)) (xNil))))
  (xSeq (xFor (xiR1 (xCons (xVar 1) (xNil))) (xgN 7) (xDrop (xApp 6 (xOp addR (xIxO 6 (xVar 7)) (xOp ixR (xFz (xLst (xCons (xC (.int 1)) (xCons (xC (.int 2)) (xCons (xC (.int 4)) (xCons (xC (.int 8)) (xCons (xC (.int 16)) (xCons (xC (.int 32)) (xNil))))))))) (xPopAt 5 (xCallT P__law_draw (xCons (xVar 0) (xCons (xLenO 5) (xNil))))))))))
  (xSeq (xSet 8 (xFz (xSortedD 3)))
  (xFreeze 6 (xFor (xiL (xVar 8)) (xgN 9) (xFor (xiL (xVar 6)) (xgN 10) (xDputK 3 (xOp orR (xVar 9) (xVar 10)) (xC (.bl true)))))))))))
  (xSeq (xSetW 11 (xLc (xiL (xFz (xSortedD 3))) 9 (xYes) (xCB tupR (xCons (xFz (xLc (xiR1 (xCons (xVar 1) (xNil))) 12 (xB (xOp (eqR false) (xOp modR (xCB intCR (xCons (xOp divR (xVar 9) (xOp ixR (xFz (xLst (xCons (xC (.int 1)) (xCons (xC (.int 2)) (xCons (xC (.int 4)) (xCons (xC (.int 8)) (xCons (xC (.int 16)) (xCons (xC (.int 32)) (xNil))))))))) (xVar 12))) xNil)) (xC (.int 2))) (xC (.int 1)))) (xVar 12))) xNil))))
  (xFreeze 11 (xRet (xCB tupR (xCons (xFz (xCN sortTR (xCons (xVar 11) xNil))) xNil)))))))
def x__law_bent : XS := xSeq (xSet 3 (xCallT P__law_draw (xCons (xVar 0) (xCons (xCB lenR (xCons (xVar 2) xNil)) (xNil)))))
  (xSeq (xSet 4 (xCallT P__law_draw (xCons (xVar 0) (xCons (xCB lenR (xCons (xVar 2) xNil)) (xNil)))))
  (xSeq (xSetW 5 (xLst (xCons (xOp addR (xSl slR (xVar 2) (xNo) (xPart (xVar 3))) (xSl slR (xVar 2) (xPart (xOp addR (xVar 3) (xC (.int 1)))) (xNo))) (xCons (xSl slR (xVar 2) (xPart (xC (.int 1))) (xNo)) (xCons (xSl slR (xVar 2) (xNo) (xPart (xUn negR (xC (.int 1))))) (xCons (xSl slR (xSl slR (xVar 2) (xPart (xC (.int 1))) (xNo)) (xNo) (xPart (xUn negR (xC (.int 1))))) (xNil)))))))
  (xSeq (xSet 6 (xTupRg (xRg1 (xVar 1))))
  (xSeq (xDrop (xApp 5 (xCB tupR (xCons (xFz (xLc (xiL (xVar 2)) 10 (xB (xOp (eqR true) (xVar 10) (xVar 6))) (xVar 10))) xNil))))
  (xSeq (xDrop (xApp 5 (xCB tupR (xCons (xFz (xLc (xiL (xVar 2)) 10 (xAnd (xB (xOp (eqR true) (xVar 10) (xVar 6))) (xB (xOp (eqR true) (xVar 10) (xTup (xNil))))) (xVar 10))) xNil))))
  (xSeq (xDrop (xApp 5 (xCB tupR (xCons (xFz (xLc (xiL (xVar 2)) 10 (xAnd (xB (xOp (eqR true) (xVar 10) (xOp ixR (xVar 2) (xVar 3)))) (xB (xOp (eqR true) (xVar 10) (xOp ixR (xVar 2) (xVar 4))))) (xVar 10))) xNil))))
  (xSeq (xDrop (xApp 5 (xCB tupR (xCons (xFz (xLc (xiL (xVar 2)) 10 (xB (xOp (inR false) (xVar 10) (xFz (xLst (xCons (xTup (xNil)) (xCons (xVar 6) (xCons (xOp ixR (xVar 2) (xVar 3)) (xCons (xOp ixR (xVar 2) (xVar 4)) (xNil))))))))) (xVar 10))) xNil))))
  (xSeq (xDrop (xApp 5 (xCB tupR (xCons (xFz (xLc (xiL (xVar 2)) 10 (xOr (xB (xOp (eqR true) (xCB lenR (xCons (xVar 10) xNil)) (xC (.int 1)))) (xB (xOp (eqR false) (xVar 10) (xOp ixR (xVar 2) (xVar 3))))) (xVar 10))) xNil))))
  (xSeq (xSet 7 (xCallT P__law_some (xCons (xVar 0) (xCons (xFz (xLstRg (xRg1 (xVar 1)))) (xCons (xC (.int 0)) (xNil))))))
  (xSeq (xIfS (xB (xOp (inR true) (xVar 7) (xVar 2))) (xDrop (xApp 5 (xCB tupR (xCons (xFz (xCN sortTR (xCons (xOp addR (xFz (xCN listR (xCons (xVar 2) xNil))) (xFz (xLst (xCons (xVar 7) (xNil))))) xNil))) xNil)))) (xNext))
  (xSeq (xSetW 8 (xCN listR (xCons (xVar 2) xNil)))
  (xSeq (xSto 8 (xVar 3) (xOp ixR (xVar 2) (xVar 4)))
  (xSeq (xSto 8 (xVar 4) (xOp ixR (xVar 2) (xVar 3)))
  (xFreeze 8 (xSeq (xDrop (xApp 5 (xCB tupR (xCons (xVar 8) xNil))))
  (xSeq (xDrop (xApp 5 (xOp addR (xSl slR (xVar 2) (xNo) (xPart (xOp addR (xVar 3) (xC (.int 1))))) (xSl slR (xVar 2) (xPart (xVar 3)) (xNo)))))
  (xSeq (xDrop (xApp 5 (xRev (xVar 2))))
  (xSeq (xFor (xiL (xFz (xLst (xCons (xFz (xCN listR (xCons (xOp ixR (xVar 2) (xVar 3)) xNil))) (xCons (xRev (xOp ixR (xVar 2) (xVar 3))) (xCons (xOp addR (xOp ixR (xVar 2) (xVar 3)) (xTup (xCons (xVar 1) (xNil)))) (xCons (xOp addR (xTup (xCons (xUn negR (xC (.int 1))) (xNil))) (xOp ixR (xVar 2) (xVar 3))) (xCons (xC .non) (xCons (xVar 3) (xCons (xOp addR (xOp ixR (xVar 2) (xVar 3)) (xSl slR (xOp ixR (xVar 2) (xVar 3)) (xPart (xUn negR (xC (.int 1)))) (xNo))) (xNil))))))))))) (xgN 9) (xDrop (xApp 5 (xOp addR (xOp addR (xSl slR (xVar 2) (xNo) (xPart (xVar 3))) (xTup (xCons (xVar 9) (xNil)))) (xSl slR (xVar 2) (xPart (xOp addR (xVar 3) (xC (.int 1)))) (xNo))))))
  (xSeq (xDrop (xApp 5 (xCB tupR (xCons (xFz (xLc (xiL (xVar 2)) 10 (xYes) (xCB tupR (xCons (xFz (xLc (xiL (xVar 10)) 11 (xYes) (xIf (xB (xOp (eqR false) (xVar 11) (xC (.int 1)))) (xC (.bl true)) (xVar 11)))) xNil)))) xNil))))
  (xSeq (xDrop (xApp 5 (xCB tupR (xCons (xFz (xLc (xiL (xVar 2)) 10 (xYes) (xCB tupR (xCons (xFz (xLc (xiL (xVar 10)) 11 (xYes) (xIf (xB (xOp (eqR false) (xVar 11) (xC (.int 0)))) (xC (.bl false)) (xVar 11)))) xNil)))) xNil))))
  (xSeq (xDrop (xApp 5 (xFz (xCN listR (xCons (xVar 2) xNil)))))
  (xSeq (xDrop (xApp 5 (xTup (xCons (xTup (xNil)) (xNil)))))
  (xSeq (xDrop (xApp 5 (xTup (xCons (xTup (xNil)) (xCons (xVar 6) (xNil))))))
  (xSeq (xDrop (xApp 5 (xTup (xCons (xVar 6) (xNil)))))
  (xSeq (xDrop (xApp 5 (xTup (xNil))))
  (xSeq (xDrop (xApp 5 (xC .non)))
  (xSeq (xDrop (xApp 5 (xC (.str ""))))
  (xRetO 5))))))))))))))))))))))))))))
def x__law_same : XS := xSeq (xIfS (xB (xOp (isX false) (xVar 1) (xC .non))) (xRet (xOp (isX false) (xVar 0) (xC .non))) (xNext))
  (xSeq (xIfS (xOr (xNot (xTru (xIsi "tuple" (xVar 0)))) (xB (xOp (eqR true) (xCB lenR (xCons (xVar 0) xNil)) (xCB lenR (xCons (xVar 1) xNil))))) (xRet (xC (.bl false))) (xNext))
  (xSeq (xIfS (xOr (xNot (xTru (xIsi "str" (xOp ixR (xVar 0) (xC (.int 0)))))) (xB (xOp (eqR true) (xOp ixR (xVar 0) (xC (.int 0))) (xOp ixR (xVar 1) (xC (.int 0)))))) (xRet (xC (.bl false))) (xNext))
  (xSeq (xFor (xiR2 (xCons (xC (.int 1)) (xCons (xCB lenR (xCons (xVar 1) xNil)) (xNil)))) (xgN 2) (xSeq (xIfS (xOr (xNot (xTru (xIsi "tuple" (xOp ixR (xVar 0) (xVar 2))))) (xB (xOp (eqR true) (xCB lenR (xCons (xOp ixR (xVar 0) (xVar 2)) xNil)) (xCB lenR (xCons (xOp ixR (xVar 1) (xVar 2)) xNil))))) (xRet (xC (.bl false))) (xNext))
  (xFor (xiR1 (xCons (xCB lenR (xCons (xOp ixR (xVar 1) (xVar 2)) xNil)) (xNil))) (xgN 3) (xIfS (xOr (xNot (xTru (xCall P__law_whole (xCons (xOp ixR (xOp ixR (xVar 0) (xVar 2)) (xVar 3)) (xNil))))) (xB (xOp (eqR true) (xOp ixR (xOp ixR (xVar 0) (xVar 2)) (xVar 3)) (xOp ixR (xOp ixR (xVar 1) (xVar 2)) (xVar 3))))) (xRet (xC (.bl false))) (xNext)))))
  (xRet (xC (.bl true))))))
def x__law_families : XS := xSeq (xSet 2 (xCallT P__law_family (xCons (xVar 0) (xCons (xVar 1) (xCons (xOp ixR (xFz (xLst (xCons (xC (.int 1)) (xCons (xC (.int 2)) (xCons (xC (.int 3)) (xCons (xC (.int 6)) (xNil))))))) (xCallT P__law_draw (xCons (xVar 0) (xCons (xC (.int 4)) (xNil))))) (xNil))))))
  (xSeq (xIfS (xB (xOp (isX true) (xCall P_family_fault (xCons (xVar 1) (xCons (xVar 2) (xNil)))) (xC .non))) (xRet (xC (.bl false))) (xNext))
  (xSeq (xSetW 3 (xCallTN P__law_bent (xCons (xVar 0) (xCons (xVar 1) (xCons (xVar 2) (xNil))))))
  (xSeq (xSet 4 (xCallT P__law_draw (xCons (xVar 0) (xCons (xCB lenR (xCons (xVar 2) xNil)) (xNil)))))
  (xSeq (xFor (xiR1 (xCons (xC (.int 6)) (xNil))) (xgN 5) (xSeq (xSet 6 (xOp modR (xCB intCR (xCons (xOp addR (xVar 4) (xOp mulR (xVar 5) (xC (.int 5)))) xNil)) (xCB lenR (xCons (xVar 2) xNil))))
  (xSeq (xSet 7 (xCall P__law_fault (xCons (xVar 1) (xCons (xOp addR (xSl slR (xVar 2) (xNo) (xPart (xVar 6))) (xSl slR (xVar 2) (xPart (xOp addR (xVar 6) (xC (.int 1)))) (xNo))) (xNil)))))
  (xIfS (xAnd (xB (xOp (isX true) (xVar 7) (xC .non))) (xB (xOp (eqR false) (xOp ixR (xVar 7) (xC (.int 0))) (xC (.str "union"))))) (xSeq (xDrop (xApp 3 (xOp addR (xSl slR (xVar 2) (xNo) (xPart (xVar 6))) (xSl slR (xVar 2) (xPart (xOp addR (xVar 6) (xC (.int 1)))) (xNo)))))
  (xBreak)) (xNext)))))
  (xFreeze 3 (xSeq (xFor (xiL (xVar 3)) (xgN 8) (xIfS (xNot (xTru (xCall P__law_same (xCons (xCall P_family_fault (xCons (xVar 1) (xCons (xVar 8) (xNil)))) (xCons (xCall P__law_fault (xCons (xVar 1) (xCons (xVar 8) (xNil)))) (xNil)))))) (xRet (xC (.bl false))) (xNext)))
  (xRet (xOp (isX false) (xCall P_family_fault (xCons (xVar 1) (xCons (xVar 2) (xNil)))) (xC .non)))))))))
end Pf

namespace Pf
open PySem PySem.Spec PyProof.Rows L2 TL
theorem r_is_integer : ∀ ts k, P_is_integer ts k → x_is_integer (enP k) (stP 1 ts) := by
  rintro ts k ⟨t, rfl, ok, hk⟩
  simp [x_is_integer, isi_int ok, isi_bl ok]
  cases t <;> simp_all [isIB, isBl, isW]
theorem r__law_whole : ∀ ts k, P__law_whole ts k → x__law_whole (enP k) (stP 1 ts) := by
  rintro ts k ⟨t, rfl, ok, hk⟩
  simp [x__law_whole, isi_int ok, isi_bl ok]
  cases t <;> simp_all [isIB, isBl, isW]
theorem r_integer_within : ∀ ts k, P_integer_within ts k → x_integer_within (enP k) (stP 3 ts) := by
  rintro ts k ⟨t, lo, hi, rfl, ok, hk⟩
  simp [x_integer_within, P_is_integer, ok]
  cases t <;> simp_all [isW, within]
  rename_i i
  by_cases h : lo ≤ i <;> simp_all <;> omega
theorem r_are_ascending : ∀ ts k, P_are_ascending ts k → x_are_ascending (enP k) (stP 4 ts) := by
  rintro ts k ⟨t, m, rfl, ok, hk⟩
  simp [x_are_ascending, isi_tup ok, P_integer_within]
  cases t <;> simp_all [isTup, asc]
  rename_i us
  refine for_over (ts := us) (fun n s => ∃ a d, s = ⟨[.fr (.tup us), .fr (.int m), .fr (.int a), d], none⟩ ∧ ascF m (-1) us = ascF m a (us.drop n)) ?_ ?_ ?_ ?_
  · intro k h
    simp
    exact h
  · exact ⟨_, _, rfl, by simp⟩
  · rintro n x s hx ⟨a, d, rfl, e⟩
    have okx : x.ok = true := oks_all.mp ok x (List.mem_of_getElem? hx)
    have hd : us.drop n = x :: us.drop (n + 1) := by
      have := List.drop_eq_getElem_cons (List.getElem?_eq_some_iff.mp hx).1
      rw [this, (List.getElem?_eq_some_iff.mp hx).2]
    rw [hd] at e
    simp
    refine ⟨_, _, _, rfl, okx, ?_⟩
    simp
    cases x with
    | int i =>
      by_cases h1 : a + 1 ≤ i <;> by_cases h2 : i ≤ m <;> simp_all [within, ascF]
    | _ => simp_all [within, ascF]
  · rintro s ⟨a, d, rfl, e⟩
    simp [ascF] at e ⊢
    simpa [e] using hk
end Pf

namespace Pf
open PySem PySem.Spec PyProof.Rows L2 TL
theorem ltge (a b : Int) : a < b ∨ b ≤ a := by omega
theorem kb {k : Rt → Prop} {f g : Bool} (hk : k (.fr (.bl f))) (h : f = g) : k (.fr (.bl g)) := h ▸ hk
theorem r__law_set : ∀ ts k, P__law_set ts k → x__law_set (enP k) (stP 3 ts) := by
  rintro ts k ⟨t, m, rfl, ok, hm, hz, hk⟩
  simp [x__law_set, isi_tup ok, P__law_whole, P_is_integer]
  cases t with
  | tup us =>
    have hl : us.length ≤ 16777216 := by
      have := hz us rfl
      rw [sizeLine_eq] at this
      exact this
    have hk : k (.fr (.bl (ascF (m - 1) (-1) us))) := hk
    simp [isTup]
    refine for_over (ts := rgT 0 us.length) (fun n s => ∃ a d, s = ⟨[.fr (.int m), .fr (.tup us), d], none⟩ ∧ ascF (m - 1) (-1) us = ascF (m - 1) a (us.drop n) ∧ -1 ≤ a ∧ ((n = 0 ∧ a = -1) ∨ (0 < n ∧ 0 ≤ a ∧ us[n - 1]? = some (.int a)))) ?_ ?_ ?_ ?_
    · intro k h
      simp
      exact ⟨by omega, h⟩
    · exact ⟨-1, _, rfl, by simp, by omega, .inl ⟨rfl, rfl⟩⟩
    · rintro n x s hx ⟨a, d, rfl, e, ha, hp⟩
      obtain ⟨rfl, hn⟩ := rgT_get hx
      have hn' : n < us.length := by omega
      have hy : us[n]? = some us[n] := List.getElem?_eq_getElem hn'
      generalize us[n] = y at hy
      have oky := oks_at ok hy
      have hi := atI_nat hy
      rw [drop_at hy] at e
      simp [hi]
      refine ⟨_, rfl, oky, ?_⟩
      cases y with
      | int i =>
        simp only [ascF] at e
        simp [isW, hi]
        rcases ltge i 0 with c1 | c1
        · simp [c1, Int.not_le.mpr c1]
          refine kb hk ?_
          rw [e, decide_eq_false (by omega)]
          rfl
        · rcases ltge i m with c2 | c2
          · simp [c1, Int.not_lt.mpr c1, c2, Int.not_le.mpr c2]
            rw [decide_eq_true (p := i ≤ m - 1) (by omega), Bool.and_true] at e
            rcases hp with ⟨rfl, rfl⟩ | ⟨h1, h2, h3⟩
            · rw [decide_eq_true (by omega), Bool.true_and] at e
              simp at e ⊢
              exact ⟨i, e, by omega, c1, by simpa using hy⟩
            · have h4 : atI us ((n : Int) - 1) = some (.int a) := atI_of (by omega) (by rw [show ((n : Int) - 1).toNat = n - 1 by omega]; exact h3)
              have h0 : n ≠ 0 := by omega
              simp [h1, h4, h0]
              rcases ltge a i with c3 | c3
              · rw [decide_eq_true (by omega), Bool.true_and] at e
                simp [c3, Int.not_le.mpr c3]
                exact ⟨i, e, by omega, c1, hy⟩
              · simp [c3, Int.not_lt.mpr c3]
                refine kb hk ?_
                rw [e, decide_eq_false (by omega)]
                rfl
          · simp [c1, Int.not_lt.mpr c1, c2, Int.not_lt.mpr c2]
            refine kb hk ?_
            rw [e, decide_eq_false (p := i ≤ m - 1) (by omega), Bool.and_false, Bool.false_and]
      | _ =>
        simp [isW]
        exact kb hk (by rw [e]; rfl)
    · rintro s ⟨a, d, rfl, e, _⟩
      rw [rgT_len] at e
      simp
      exact kb hk (by rw [e]; simp [ascF])
  | _ =>
    simp [isTup]
    exact hk
end Pf

namespace Pf
open PySem PySem.Spec PyProof.Rows L2 TL
theorem r__law_said : ∀ ts k, P__law_said ts k → x__law_said (enP k) (stP 2 ts) := by
  rintro ts k ⟨a, b, rfl, hk⟩
  simp [x__law_said]
  cases a <;> cases b <;> simp_all
theorem r_is_nowhere_worse : ∀ ts k, P_is_nowhere_worse ts k → x_is_nowhere_worse (enP k) (stP 5 ts) := by
  rintro ts k ⟨rw', r, ins, rfl, h0, h1, hk⟩
  have hi := atI_ints h0 h1
  simp [x_is_nowhere_worse, hi]
  unfold nwB at0 at hk
  rcases ltge (rw'.getD r.toNat 0) 0 with c | c
  · have c' := Int.not_le.mpr c
    rw [List.getD_eq_getElem?_getD] at c c'
    simp [c, c']
    refine for_over (ts := enumT 0 (rw'.map T.int)) (fun n s => ∃ d e, s = ⟨[.fr (tI rw'), .fr (.int r), .fr (tI ins), d, e], none⟩ ∧ ∀ j, j < n → (rw'.getD j 0 ≤ 0 ∨ (j : Int) ∈ ins)) ?_ ?_ ?_ ?_
    · intro k h
      simp
      exact h
    · exact ⟨_, _, rfl, fun j h => absurd h (by omega)⟩
    · rintro n x s hx ⟨d, e, rfl, hp⟩
      obtain ⟨t, h1, rfl⟩ := enumT_el hx
      obtain ⟨i, h2, rfl⟩ := ints_get h1
      have gi : rw'.getD n 0 = i := getD_at h2
      have nx : (i ≤ 0 ∨ (n : Int) ∈ ins) → ∀ j, j < n + 1 → (rw'.getD j 0 ≤ 0 ∨ (j : Int) ∈ ins) := fun h j hj => by
        by_cases q : j < n
        · exact hp j q
        · have : j = n := by omega
          subst this
          rw [gi]
          exact h
      simp
      rcases ltge 0 i with c1 | c1
      · by_cases c2 : (n : Int) ∈ ins
        · have z := nx (.inr c2)
          simp [c1, Int.not_le.mpr c1, c2]
          simpa using z
        · simp [c1, Int.not_le.mpr c1, c2]
          refine kb hk ?_
          rw [Bool.and_eq_false_iff]
          right
          rw [List.all_eq_false]
          refine ⟨n, ?_, ?_⟩
          · rw [List.mem_range]
            exact (List.getElem?_eq_some_iff.mp h2).1
          · rw [gi]
            simp [c1, c2]
      · have z := nx (.inl c1)
        simp [c1, Int.not_lt.mpr c1]
        simpa using z
    · rintro s ⟨d, e, rfl, hp⟩
      rw [enumT_len, List.length_map] at hp
      simp
      refine kb hk ?_
      rw [Bool.and_eq_true]
      refine ⟨decide_eq_true (by rw [List.getD_eq_getElem?_getD]; exact c), ?_⟩
      rw [List.all_eq_true]
      intro j hj
      rw [List.mem_range] at hj
      simpa using hp j hj
  · have c' := Int.not_lt.mpr c
    rw [decide_eq_false c'] at hk
    rw [List.getD_eq_getElem?_getD] at c c'
    simp [c, c']
    exact hk
end Pf

namespace Pf
open PySem PySem.Spec PyProof.Rows L2 TL
theorem atI_rows {rows : List (List Int)} {i : Int} (h0 : 0 ≤ i) (h1 : i < rows.length) : atI (rows.map tI) i = some (tI (rows.getD i.toNat [])) := by
  refine atI_of h0 ?_
  have : i.toNat < rows.length := by omega
  rw [List.getElem?_map, List.getElem?_eq_getElem this, List.getD_eq_getElem?_getD, List.getElem?_eq_getElem this]
  rfl
theorem wide_at {many : Nat} {rows : List (List Int)} (h : Wide many rows) {i : Nat} (hi : i < rows.length) : (rows.getD i []).length = many := by
  rw [List.getD_eq_getElem?_getD, List.getElem?_eq_getElem hi]
  exact h _ (List.getElem_mem hi)
theorem len_eq {a b : Nat} : decide ((a : Int) = (b : Int)) = decide (a = b) := by rw [decide_eq_decide]; omega
theorem r_are_row_papers : ∀ ts k, P_are_row_papers ts k → x_are_row_papers (enP k) (stP 6 ts) := by
  rintro ts k ⟨many, rows, rules, ins, t, rfl, ok, hw, hr, hk⟩
  simp [x_are_row_papers, isi_tup ok]
  cases t with
  | tup us =>
    have hk : k (.fr (.bl (decide (us.length = rules.length) && pzB rows ins rules us))) := hk
    simp [isTup]
    by_cases hl : us.length = rules.length
    · simp [hl]
      rw [decide_eq_true hl, Bool.true_and] at hk
      refine for_over (ts := zipT (rules.map T.int) us) (fun n s => ∃ d e, s = ⟨[.fr (rowsT rows), .fr (tI rules), .fr (tI ins), .fr (.tup us), d, e], none⟩ ∧ pzB rows ins rules us = pzB rows ins (rules.drop n) (us.drop n)) ?_ ?_ ?_ ?_
      · intro k h
        simp
        exact h
      · exact ⟨_, _, rfl, rfl⟩
      · rintro n x s hx ⟨d, e, rfl, hp⟩
        obtain ⟨a, y, h1, h2, rfl⟩ := zipT_el hx
        obtain ⟨r, h3, rfl⟩ := ints_get h1
        have oky := oks_at ok h2
        rw [drop_at h2, drop_at h3] at hp
        have hp : pzB rows ins rules us = (okAt rows ins r y && pzB rows ins (rules.drop (n + 1)) (us.drop (n + 1))) := hp
        unfold okAt at hp
        simp
        refine ⟨_, _, _, rfl, oky, ?_⟩
        simp
        cases hb : within 0 ((rows.length : Int) - 1) y with
        | false =>
          simp
          refine kb hk ?_
          rw [hp, hb]
          rfl
        | true =>
          cases y with
          | int i =>
            simp only [within, Bool.and_eq_true, decide_eq_true_eq] at hb
            have hi := atI_rows (rows := rows) (i := i) (by omega) (by omega)
            simp [hi]
            have hr' := hr r (List.mem_of_getElem? h3)
            refine ⟨_, _, _, rfl, hr'.1, by rw [← List.getD_eq_getElem?_getD, wide_at hw (by omega)]; exact hr'.2, ?_⟩
            rw [show within 0 ((rows.length : Int) - 1) (.int i) = true by simp [within]; omega, Bool.true_and] at hp
            simp only [toI1] at hp
            simp
            rw [← List.getD_eq_getElem?_getD]
            cases hc : nwB ins r (rows.getD i.toNat []) with
            | false =>
              simp
              refine kb hk ?_
              rw [hp, hc]
              rfl
            | true =>
              simp
              rw [hp, hc]
              rfl
          | _ => cases hb
      · rintro s ⟨d, e, rfl, hp⟩
        rw [zipT_len, List.length_map, hl, Nat.min_self] at hp
        simp
        refine kb hk ?_
        rw [hp]
        simp [pzB]
    · have h2 : ¬ ((us.length : Int) = rules.length) := by omega
      simp [hl, h2]
      rw [decide_eq_false hl] at hk
      exact hk
  | _ =>
    simp [isTup]
    exact hk
theorem asc_toI {m : Int} : ∀ {ts : List T} {a : Int}, ascF m a ts = true → ts = (ts.map toI1).map T.int ∧ (∀ r ∈ ts.map toI1, a < r ∧ r ≤ m) ∧ (ts.map toI1).Pairwise (· < ·)
  | [], a, _ => ⟨rfl, fun r h => by simp at h, List.Pairwise.nil⟩
  | t :: ts, a, h => by
    cases t with
    | int i =>
      simp only [ascF, Bool.and_eq_true, decide_eq_true_eq] at h
      obtain ⟨h1, h2, h3⟩ := asc_toI h.2
      refine ⟨?_, ?_, ?_⟩
      · rw [List.map_cons, List.map_cons, ← h1]
        rfl
      · intro r hr
        rw [List.map_cons] at hr
        rcases List.mem_cons.mp hr with e | hr
        · have : r = i := e
          omega
        · have := h2 r hr
          omega
      · rw [List.map_cons]
        exact List.pairwise_cons.mpr ⟨fun r hr => (h2 r hr).1, h3⟩
    | _ => cases h
theorem asc_tI {m : Int} {t : T} (h : asc m t = true) : t = tI (toI t) ∧ (∀ r ∈ toI t, 0 ≤ r ∧ r ≤ m) ∧ Inc (toI t) := by
  cases t with
  | tup ts =>
    obtain ⟨h1, h2, h3⟩ := asc_toI (show ascF m (-1) ts = true from h)
    refine ⟨by show T.tup ts = T.tup _; rw [← show ts = (toI (.tup ts)).map T.int from h1], fun r hr => ?_, h3⟩
    have := h2 r hr
    omega
  | _ => cases h
theorem r_is_row_bar : ∀ ts k, P_is_row_bar ts k → x_is_row_bar (enP k) (stP 5 ts) := by
  rintro ts k ⟨many, rows, t, rfl, ok, hw, hk⟩
  simp [x_is_row_bar, isi_tup ok]
  cases t with
  | tup us =>
    simp [isTup]
    match us, ok, hk with
    | [], ok, hk =>
      simp
      exact hk
    | [a], ok, hk =>
      simp
      exact hk
    | a :: b :: c :: r, ok, hk =>
      have h2 : ¬ ((r.length : Int) + 1 + 1 + 1 = 2) := by omega
      simp [h2]
      exact hk
    | [a, b], ok, hk =>
      simp at ok
      simp [P_are_ascending, ok]
      cases ha : asc ((many : Int) - 1) a with
      | false =>
        simp
        refine kb hk ?_
        simp [paperB, ha]
      | true =>
        obtain ⟨e1, e2, e3⟩ := asc_tI ha
        simp
        generalize hn : toI a = ns at e1 e2 e3
        have hk2 : k (.fr (.bl ((!ns.isEmpty) && papersB rows ns (ns ++ []) b))) := kb hk (by simp [paperB, ha, hn])
        subst e1
        simp
        cases ns with
        | nil =>
          simp
          exact hk2
        | cons r rs =>
          simp
          refine ⟨many, rows, r :: rs, r :: rs, b, rfl, ok.2, hw, fun q hq => ?_, ?_⟩
          · have := e2 q hq
            omega
          · simp
            simpa using hk2
  | _ =>
    simp [isTup]
    exact hk
end Pf

namespace Pf
open PySem PySem.Spec PyProof.Rows L2 TL
theorem r_is_fence_set : ∀ ts k, P_is_fence_set ts k → x_is_fence_set (enP k) (stP 5 ts) := by
  rintro ts k ⟨many, up, lo, t, rfl, ok, hk⟩
  simp [x_is_fence_set, P_are_ascending, ok]
  cases ha : asc ((many : Int) - 1) t with
  | false =>
    simp
    refine kb hk ?_
    rw [ha]
    rfl
  | true =>
    obtain ⟨e1, e2, e3⟩ := asc_tI ha
    generalize hn : toI t = ns at e1 e2 e3 hk
    subst e1
    rw [ha, Bool.true_and] at hk
    simp
    refine for_over (ts := ns.map T.int) (fun n s => (∃ d, s = ⟨[.fr (.int many), .fr (tI up), .fr (tI lo), .fr (tI ns), d], none⟩) ∧ ∀ (j : Nat) (r : Int), j < n → ns[j]? = some r → r ∉ up) ?_ ?_ ?_ ?_
    · intro k h
      simp
      exact h
    · exact ⟨⟨_, rfl⟩, fun j r h => absurd h (by omega)⟩
    · rintro n x s hx ⟨⟨d, rfl⟩, hp⟩
      obtain ⟨r, h1, rfl⟩ := ints_get hx
      simp
      by_cases c : r ∈ up
      · simp [c]
        refine kb hk ?_
        rw [Bool.and_eq_false_iff]
        left
        rw [List.all_eq_false]
        exact ⟨r, c, by simpa using List.mem_of_getElem? h1⟩
      · simp [c]
        intro j r' hj h2
        by_cases q : j < n
        · exact hp j r' q h2
        · have : j = n := by omega
          subst this
          rw [h1] at h2
          cases h2
          exact c
    · rintro s ⟨⟨d, rfl⟩, hp⟩
      have hup : (up.all fun r => decide (r ∉ ns)) = true := by
        rw [List.all_eq_true]
        intro r hr
        refine decide_eq_true fun h => ?_
        obtain ⟨j, hj⟩ := List.getElem?_of_mem h
        exact hp j r (by rw [List.length_map]; exact (List.getElem?_eq_some_iff.mp hj).1) hj hr
      rw [hup, Bool.true_and] at hk
      simp
      refine for_over (ts := lo.map T.int) (fun n s => (∃ d, s = ⟨[.fr (.int many), .fr (tI up), .fr (tI lo), .fr (tI ns), d], none⟩) ∧ ∀ (j : Nat) (r : Int), j < n → lo[j]? = some r → r ∈ ns) ?_ ?_ ?_ ?_
      · intro k h
        simp
        exact h
      · exact ⟨⟨_, rfl⟩, fun j r h => absurd h (by omega)⟩
      · rintro n x s hx ⟨⟨d, rfl⟩, hp⟩
        obtain ⟨r, h1, rfl⟩ := ints_get hx
        simp
        by_cases c : r ∈ ns
        · simp [c]
          intro j r' hj h2
          by_cases q : j < n
          · exact hp j r' q h2
          · have : j = n := by omega
            subst this
            rw [h1] at h2
            cases h2
            exact c
        · simp [c]
          refine kb hk ?_
          rw [List.all_eq_false]
          exact ⟨r, List.mem_of_getElem? h1, by simpa using c⟩
      · rintro s ⟨⟨d, rfl⟩, hp⟩
        simp
        refine kb hk ?_
        rw [List.all_eq_true]
        intro r hr
        refine decide_eq_true ?_
        obtain ⟨j, hj⟩ := List.getElem?_of_mem hr
        exact hp j r (by rw [List.length_map]; exact (List.getElem?_eq_some_iff.mp hj).1) hj
theorem set_map {α β : Type} (f : α → β) (l : List α) (n : Nat) (x : α) : (l.map f).set n (f x) = (l.set n x).map f := by rw [List.map_set]
theorem r__law_turned : ∀ ts k, P__law_turned ts k → x__law_turned (enP k) (stP 6 ts) := by
  rintro ts k ⟨many, rows, at', rule, value, rfl, hl, hw, hm, h0, h1, h2, h3, hk⟩
  have hi := atI_rows h0 h1
  have hlen := wide_at hw (i := at'.toNat) (by omega)
  simp [x__law_turned, hi]
  rw [← List.getD_eq_getElem?_getD]
  refine ⟨rule.toNat, ?_, ?_⟩
  · exact ixN_of h2 (by rw [hlen]; exact h3)
  · refine ⟨at'.toNat, ixN_of h0 h1, ?_⟩
    have e1 : ((rows.getD at'.toNat []).map T.int).set rule.toNat (T.int value) = ((rows.getD at'.toNat []).set rule.toNat value).map T.int := by rw [List.map_set]
    rw [e1]
    have e2 : (rows.map tI).set at'.toNat (tI ((rows.getD at'.toNat []).set rule.toNat value)) = (rows.set at'.toNat ((rows.getD at'.toNat []).set rule.toNat value)).map tI := by rw [List.map_set]
    have e3 := hk (rows.set at'.toNat ((rows.getD at'.toNat []).set rule.toNat value)) (fun rw' hr => by
      rcases List.mem_or_eq_of_mem_set hr with q | q
      · exact hw _ q
      · rw [q, List.length_set]
        exact hlen) (by rw [List.length_set])
    unfold rowsT at e3
    rw [← e2] at e3
    exact e3
end Pf

namespace Pf
open PySem PySem.Spec PyProof.Rows L2 TL
theorem papers_false {many : Nat} {rows : List (List Int)} {up lo ns : List Int} {us : List T} (h : pzB rows (ns ++ up) ns us = false) : paperB many rows up lo (.tup [tI ns, .tup us]) = false := by
  have e : toI (tI ns) = ns := by
    show (ns.map T.int).map toI1 = ns
    rw [List.map_map]
    exact (List.map_congr_left fun _ _ => rfl).trans (List.map_id ns)
  simp only [paperB, e, papersB, h, Bool.and_false]
theorem toI_tI (ns : List Int) : toI (tI ns) = ns := by
  show (ns.map T.int).map toI1 = ns
  rw [List.map_map]
  exact (List.map_congr_left fun _ _ => rfl).trans (List.map_id ns)
theorem pz_false : ∀ {rows : List (List Int)} {ins rs : List Int} {us : List T} {n : Nat} {r : Int} {y : T}, rs[n]? = some r → us[n]? = some y → okAt rows ins r y = false → pzB rows ins rs us = false
  | _, _, [], _, _, _, _, h, _, _ => by simp at h
  | _, _, _ :: _, [], _, _, _, _, h, _ => by simp at h
  | rows, ins, q :: rs, u :: us, 0, r, y, h1, h2, h => by
    simp at h1 h2
    subst h1 h2
    simp [pzB, h]
  | rows, ins, q :: rs, u :: us, n + 1, r, y, h1, h2, h => by
    have := pz_false (rows := rows) (ins := ins) (rs := rs) (us := us) (n := n) (by simpa using h1) (by simpa using h2) h
    simp [pzB, this]
theorem pz_true : ∀ {rows : List (List Int)} {ins rs : List Int} {us : List T}, (∀ (n : Nat) (r : Int) (y : T), rs[n]? = some r → us[n]? = some y → okAt rows ins r y = true) → pzB rows ins rs us = true
  | _, _, [], _, _ => by simp [pzB]
  | _, _, _ :: _, [], _ => by simp [pzB]
  | rows, ins, q :: rs, u :: us, h => by
    have h0 := h 0 q u rfl rfl
    have h1 := pz_true (rows := rows) (ins := ins) (rs := rs) (us := us) fun n r y a b => h (n + 1) r y (by simpa using a) (by simpa using b)
    simp [pzB, h0, h1]
theorem nw_of {ins rw' : List Int} {r : Int} (h0 : at0 rw' r < 0) (h : ∀ j, j < rw'.length → rw'.getD j 0 ≤ 0 ∨ (j : Int) ∈ ins) : nwB ins r rw' = true := by
  unfold nwB
  rw [decide_eq_true h0, Bool.true_and, List.all_eq_true]
  intro j hj
  simpa using h j (List.mem_range.mp hj)
theorem nw_not {ins rw' : List Int} {r : Int} {j : Nat} (hj : j < rw'.length) (h : 0 < rw'.getD j 0) (hi : (j : Int) ∉ ins) : nwB ins r rw' = false := by
  unfold nwB
  rw [Bool.and_eq_false_iff]
  right
  rw [List.all_eq_false]
  refine ⟨j, List.mem_range.mpr hj, ?_⟩
  simp only [decide_eq_false (Int.not_le.mpr h), decide_eq_false hi]
  decide
theorem okAt_out {rows : List (List Int)} {ins : List Int} {r i : Int} (h : i < 0 ∨ (rows.length : Int) ≤ i) : okAt rows ins r (.int i) = false := by
  have e : within 0 ((rows.length : Int) - 1) (.int i) = false := by
    show (decide (0 ≤ i) && decide (i ≤ (rows.length : Int) - 1)) = false
    rw [Bool.and_eq_false_iff]
    rcases h with h | h
    · exact .inl (decide_eq_false (by omega))
    · exact .inr (decide_eq_false (by omega))
  unfold okAt
  rw [e, Bool.false_and]
theorem r__law_paper : ∀ ts k, P__law_paper ts k → x__law_paper (enP k) (stP 11 ts) := by
  rintro ts k ⟨many, rows, up, lo, t, rfl, ok, sm, hm, hrl, hw, hk⟩
  simp [x__law_paper, isi_tup ok]
  cases t with
  | tup us =>
    simp [isTup]
    match us, ok, hk, sm with
    | [], ok, hk, sm =>
      simp
      exact hk
    | [a], ok, hk, sm =>
      simp
      exact hk
    | a :: b :: c :: r, ok, hk, sm =>
      have h2 : ¬ ((r.length : Int) + 1 + 1 + 1 = 2) := by omega
      simp [h2]
      exact hk
    | [a, b], ok, hk, sm =>
      simp at ok
      have i0 : atI [a, b] 0 = some a := atI_of (by omega) rfl
      have i1 : atI [a, b] 1 = some b := atI_of (by omega) rfl
      simp [i0, i1]
      refine ⟨a, _, rfl, ok.1, by have : (many : Int) ≤ 6 := by omega
                                  exact Int.lt_of_le_of_lt this (by decide), fun us hu => ?_, ?_⟩
      · have := sm.2 a (by simp)
        rw [hu] at this
        rw [sizeLine_eq]
        have z : us.length ≤ 1000 := this
        omega
      · simp [isi_tup ok.2]
        cases ha : asc ((many : Int) - 1) a with
        | false =>
          simp
          exact kb hk (by simp [paperB, ha])
        | true =>
          obtain ⟨e1, e2, e3⟩ := asc_tI ha
          generalize hn : toI a = ns at e1 e2 e3
          subst e1
          cases b with
          | tup us =>
            simp [isTup]
            by_cases c0 : ns = []
            · subst c0
              simp
              exact kb hk (by simp [paperB, ha, toI_tI])
            · have c0' : ns.length ≠ 0 := fun h => c0 (List.length_eq_zero_iff.mp h)
              have c0'' : ¬ ((ns.length : Int) = 0) := by omega
              by_cases cl : us.length = ns.length
              · simp [c0, c0'', cl]
                have hk2 : k (.fr (.bl (((up.all fun r => decide (r ∉ ns)) && lo.all fun r => decide (r ∈ ns)) && pzB rows (ns ++ up) ns us))) := kb hk (by simp [paperB, ha, toI_tI, papersB, cl, show ns.isEmpty = false by simpa using c0])
                refine for_over (ts := lo.map T.int) (fun n s => (∃ d, s = ⟨[.fr (.int many), .fr (rowsT rows), .fr (tI up), .fr (tI lo), .fr (.tup [tI ns, .tup us]), .fr (tI ns), .fr (.tup us), d, .un, .un, .un], none⟩) ∧ ∀ (j : Nat) (r : Int), j < n → lo[j]? = some r → r ∈ ns) ?_ ?_ ?_ ?_
                · intro k h
                  simp
                  exact h
                · exact ⟨⟨_, rfl⟩, fun j r h => absurd h (by omega)⟩
                · rintro n x s hx ⟨⟨d, rfl⟩, hp⟩
                  obtain ⟨r, h1, rfl⟩ := ints_get hx
                  simp
                  by_cases c : r ∈ ns
                  · simp [c]
                    intro j r' hj h2
                    by_cases q : j < n
                    · exact hp j r' q h2
                    · have : j = n := by omega
                      subst this
                      rw [h1] at h2
                      cases h2
                      exact c
                  · simp [c]
                    refine kb hk2 ?_
                    have : (lo.all fun r => decide (r ∈ ns)) = false := by
                      rw [List.all_eq_false]
                      exact ⟨r, List.mem_of_getElem? h1, by simpa using c⟩
                    rw [this, Bool.and_false, Bool.false_and]
                · rintro s ⟨⟨d, rfl⟩, hp⟩
                  have hlo : (lo.all fun r => decide (r ∈ ns)) = true := by
                    rw [List.all_eq_true]
                    intro r hr
                    refine decide_eq_true ?_
                    obtain ⟨j, hj⟩ := List.getElem?_of_mem hr
                    exact hp j r (by rw [List.length_map]; exact (List.getElem?_eq_some_iff.mp hj).1) hj
                  rw [hlo, Bool.and_true] at hk2
                  simp
                  refine for_over (ts := up.map T.int) (fun n s => (∃ d, s = ⟨[.fr (.int many), .fr (rowsT rows), .fr (tI up), .fr (tI lo), .fr (.tup [tI ns, .tup us]), .fr (tI ns), .fr (.tup us), d, .un, .un, .un], none⟩) ∧ ∀ (j : Nat) (r : Int), j < n → up[j]? = some r → r ∉ ns) ?_ ?_ ?_ ?_
                  · intro k h
                    simp
                    exact h
                  · exact ⟨⟨_, rfl⟩, fun j r h => absurd h (by omega)⟩
                  · rintro n x s hx ⟨⟨d, rfl⟩, hp⟩
                    obtain ⟨r, h1, rfl⟩ := ints_get hx
                    simp
                    by_cases c : r ∈ ns
                    · simp [c]
                      refine kb hk2 ?_
                      have : (up.all fun r => decide (r ∉ ns)) = false := by
                        rw [List.all_eq_false]
                        exact ⟨r, List.mem_of_getElem? h1, by simpa using c⟩
                      rw [this, Bool.false_and]
                    · simp [c]
                      intro j r' hj h2
                      by_cases q : j < n
                      · exact hp j r' q h2
                      · have : j = n := by omega
                        subst this
                        rw [h1] at h2
                        cases h2
                        exact c
                  · rintro s ⟨⟨d, rfl⟩, hp⟩
                    have hup : (up.all fun r => decide (r ∉ ns)) = true := by
                      rw [List.all_eq_true]
                      intro r hr
                      refine decide_eq_true ?_
                      obtain ⟨j, hj⟩ := List.getElem?_of_mem hr
                      exact hp j r (by rw [List.length_map]; exact (List.getElem?_eq_some_iff.mp hj).1) hj
                    rw [hup, Bool.true_and] at hk2
                    simp
                    refine for_over (ts := rgT 0 ns.length) (fun n s => (∃ d7 d8 d9 d10, s = ⟨[.fr (.int many), .fr (rowsT rows), .fr (tI up), .fr (tI lo), .fr (.tup [tI ns, .tup us]), .fr (tI ns), .fr (.tup us), d7, d8, d9, d10], none⟩) ∧ ∀ (j : Nat) (r : Int) (y : T), j < n → ns[j]? = some r → us[j]? = some y → okAt rows (ns ++ up) r y = true) ?_ ?_ ?_ ?_
                    · intro k h
                      simp
                      have : ns.length ≤ 1000 := by
                        have := sm.2 (tI ns) (by simp)
                        simpa [smallT] using this
                      exact ⟨by omega, h⟩
                    · exact ⟨⟨_, _, _, _, rfl⟩, fun j r y h => absurd h (by omega)⟩
                    · rintro n x s hx ⟨⟨d7, d8, d9, d10, rfl⟩, hp⟩
                      obtain ⟨rfl, hn⟩ := rgT_get hx
                      have hn1 : n < ns.length := by omega
                      have hn2 : n < us.length := by omega
                      have hy : us[n]? = some us[n] := List.getElem?_eq_getElem hn2
                      have hr : ns[n]? = some ns[n] := List.getElem?_eq_getElem hn1
                      generalize us[n] = y at hy
                      generalize ns[n] = r at hr
                      have oky : y.ok = true := oks_at (by have := ok.2; exact this) hy
                      have hi := atI_nat hy
                      have hj : atI (ns.map T.int) (n : Int) = some (.int r) := atI_nat (by rw [List.getElem?_map, hr]; rfl)
                      have fl : okAt rows (ns ++ up) r y = false → k (.fr (.bl false)) := fun h => kb hk2 (pz_false hr hy h)
                      simp [hi]
                      refine ⟨y, rfl, oky, ?_⟩
                      cases y with
                      | int i =>
                        simp [isW]
                        rcases ltge i 0 with c1 | c1
                        · simp [c1, Int.not_le.mpr c1]
                          exact fl (okAt_out (.inl c1))
                        · rcases ltge i rows.length with c2 | c2
                          · simp [c1, Int.not_lt.mpr c1, c2, Int.not_le.mpr c2]
                            have hri := atI_rows (rows := rows) c1 c2
                            have hrr := e2 r (List.mem_of_getElem? hr)
                            have hlen := wide_at hw (i := i.toNat) (by omega)
                            have hwi : within 0 ((rows.length : Int) - 1) (.int i) = true := by simp [within]; omega
                            have hra := atI_ints (ns := rows.getD i.toNat []) (i := r) hrr.1 (by rw [hlen]; omega)
                            generalize hrow : rows.getD i.toNat [] = row at hri hlen hra
                            have okr : okAt rows (ns ++ up) r (.int i) = nwB (ns ++ up) r row := by unfold okAt; rw [hwi, Bool.true_and]; show nwB (ns ++ up) r (rows.getD i.toNat []) = _; rw [hrow]
                            rw [okr] at fl
                            simp [hri, hj, hra]
                            rw [← List.getD_eq_getElem?_getD]
                            rcases ltge (row.getD r.toNat 0) 0 with c3 | c3
                            · simp only [List.getD_eq_getElem?_getD] at c3
                              simp [c3, Int.not_le.mpr c3]
                              have c3' : at0 row r < 0 := by unfold at0; rw [List.getD_eq_getElem?_getD]; exact c3
                              refine for_over (ts := rgT 0 many) (fun m s => (∃ d7, s = ⟨[.fr (.int many), .fr (rowsT rows), .fr (tI up), .fr (tI lo), .fr (.tup [tI ns, .tup us]), .fr (tI ns), .fr (.tup us), d7, .fr (.int n), .fr (.int i), .fr (tI row)], none⟩) ∧ ∀ (j : Nat), j < m → row.getD j 0 ≤ 0 ∨ (j : Int) ∈ ns ++ up) ?_ ?_ ?_ ?_
                              · intro k h
                                simp
                                exact ⟨by omega, h⟩
                              · exact ⟨⟨_, rfl⟩, fun j h => absurd h (by omega)⟩
                              · rintro m x s hx ⟨⟨d7, rfl⟩, hq⟩
                                obtain ⟨rfl, hm2⟩ := rgT_get hx
                                have hm3 : atI (row.map T.int) (m : Int) = some (.int (row.getD m 0)) := by
                                  have := atI_ints (ns := row) (i := (m : Int)) (by omega) (by omega)
                                  simpa using this
                                have nx : (row.getD m 0 ≤ 0 ∨ (m : Int) ∈ ns ++ up) → ∀ j, j < m + 1 → (row.getD j 0 ≤ 0 ∨ (j : Int) ∈ ns ++ up) := fun h j hj => by
                                  by_cases q : j < m
                                  · exact hq j q
                                  · have : j = m := by omega
                                    subst this
                                    exact h
                                simp
                                by_cases c4 : (m : Int) ∈ ns
                                · have z := nx (.inr (List.mem_append_left _ c4))
                                  simp [c4]
                                  simpa using z
                                · by_cases c5 : (m : Int) ∈ up
                                  · have z := nx (.inr (List.mem_append_right _ c5))
                                    simp [c4, c5]
                                    simpa using z
                                  · simp [c4, c5, hm3]
                                    rcases ltge 0 (row.getD m 0) with c6 | c6
                                    · have c6' := c6
                                      simp only [List.getD_eq_getElem?_getD] at c6
                                      simp [c6, Int.not_le.mpr c6]
                                      exact fl (nw_not (by omega) c6' (by simp [c4, c5]))
                                    · have z := nx (.inl c6)
                                      simp only [List.getD_eq_getElem?_getD] at c6
                                      simp [c6, Int.not_lt.mpr c6]
                                      simpa using z
                              · rintro s ⟨⟨d7, rfl⟩, hq⟩
                                rw [rgT_len] at hq
                                have ok1 : okAt rows (ns ++ up) r (.int i) = true := by
                                  rw [okr]
                                  exact nw_of c3' fun j hj => hq j (by omega)
                                refine ⟨⟨_, _, _, _, rfl⟩, fun j r' y' hj h1 h2 => ?_⟩
                                by_cases q : j < n
                                · exact hp j r' y' q h1 h2
                                · have : j = n := by omega
                                  subst this
                                  rw [hr] at h1
                                  rw [hy] at h2
                                  cases h1
                                  cases h2
                                  exact ok1
                            · simp only [List.getD_eq_getElem?_getD] at c3
                              simp [c3, Int.not_lt.mpr c3]
                              refine fl ?_
                              unfold nwB at0
                              rw [List.getD_eq_getElem?_getD, decide_eq_false (Int.not_lt.mpr c3)]
                              rfl
                          · simp [c1, Int.not_lt.mpr c1, c2, Int.not_lt.mpr c2]
                            exact fl (okAt_out (.inr c2))
                      | _ =>
                        simp [isW]
                        exact fl rfl
                    · rintro s ⟨⟨d7, d8, d9, d10, rfl⟩, hp⟩
                      rw [rgT_len] at hp
                      simp
                      refine kb hk2 ?_
                      exact pz_true fun n r y h1 h2 => hp n r y (by have := (List.getElem?_eq_some_iff.mp h1).1; omega) h1 h2
              · have cl' : ¬ ((us.length : Int) = ns.length) := by omega
                simp [c0, c0'', cl, cl']
                exact kb hk (by simp [paperB, ha, toI_tI, papersB, cl])
          | _ =>
            simp [isTup]
            exact kb hk (by simp [paperB, papersB])
  | _ =>
    simp [isTup]
    exact hk
end Pf

namespace Pf
open PySem PySem.Spec PyProof.Rows L2 TL
theorem na_lt {i : Int} {b : Nat} (h0 : 0 ≤ i) (h : i < 2 ^ b) : i.natAbs < 2 ^ b := by
  have e : (i.natAbs : Int) = i := Int.natAbs_of_nonneg h0
  have : (i.natAbs : Int) < ((2 ^ b : Nat) : Int) := by rw [e]; push_cast; exact h
  omega
theorem mul_ok {i j : Int} (a b : Nat) (h0 : 0 ≤ i) (h1 : i < 2 ^ a) (h2 : 0 ≤ j) (h3 : j < 2 ^ b) (ha : 0 < a) (hb : 0 < b) (h : a + b ≤ 1000000) : CMulW i j := wide_mul (na_lt h0 h1) (na_lt h2 h3) ha hb h
theorem div_ok {i j : Int} (h0 : 0 < j) (h1 : j < 2 ^ 32) : CDivW i j := wide_div (b := 32) h0 (na_lt (by omega) h1) (by omega) (by omega)
theorem r__law_draw : ∀ a ts tp k, P__law_draw ts tp k → x__law_draw (enT a k) (stT 7 a tp ts) := by
  rintro a ts tp k ⟨many, b, rfl, ⟨turn, great, cells, rfl, t0, t1, g0, cl1, cl2, cc⟩, hb, hm, hk⟩
  have a0 : ∀ x y z : T, atI [x, y, z] 0 = some x := fun x y z => atI_of (by omega) rfl
  have a1 : ∀ x y z : T, atI [x, y, z] 1 = some y := fun x y z => atI_of (by omega) rfl
  have a2 : ∀ x y z : T, atI [x, y, z] 2 = some z := fun x y z => atI_of (by omega) rfl
  have n0 : ixN 3 0 = some 0 := rfl
  have n1 : ixN 3 1 = some 1 := rfl
  have tk : ∀ g : Int, 0 ≤ g → TapeOk (b + 1) [.int (turn + 1), .int g, .lst (cells.map T.int)] := fun g hg => ⟨turn + 1, g, cells, rfl, by omega, by omega, hg, cl1, cl2, cc⟩
  simp [x__law_draw, a0, a1, a2, n0, n1]
  rcases ltge many 2 with c | c
  · simp [c, Int.not_le.mpr c]
    exact hk 0 _ (by omega) (by omega) (tk great g0)
  · simp [c, Int.not_lt.mpr c]
    rcases ltge 0 great with c1 | c1
    · simp [c1, Int.not_le.mpr c1]
      refine ⟨by omega, div_ok (by omega) (by omega), ?_⟩
      exact hk _ _ (Int.emod_nonneg _ (by omega)) (by have := Int.emod_lt_of_pos great (show 0 < many by omega); omega) (tk _ (Int.ediv_nonneg (by omega) (by omega)))
    · simp [c1, Int.not_lt.mpr c1]
      have lp : (0 : Int) < cells.length := by omega
      refine ⟨by omega, ?_⟩
      have r0 : 0 ≤ (turn + 1) % (cells.length : Int) := Int.emod_nonneg _ (by omega)
      have r1 : (turn + 1) % (cells.length : Int) < cells.length := Int.emod_lt_of_pos _ lp
      have hc := atI_ints r0 r1
      have hcm : cells.getD ((turn + 1) % (cells.length : Int)).toNat 0 ∈ cells := by
        rw [List.getD_eq_getElem?_getD, List.getElem?_eq_getElem (by omega)]
        exact List.getElem_mem _
      have hcb := cc _ hcm
      generalize cells.getD ((turn + 1) % (cells.length : Int)).toNat 0 = cell at hc hcm hcb
      have hM : (turn + 1) ≤ 1099511627776 := by
        have : b + 1 ≤ 1099511627776 := hb
        omega
      refine ⟨_, hc, ?_⟩
      simp
      refine ⟨mul_ok 21 16 hcb.1 (by omega) (by omega) (by omega) (by omega) (by omega) (by omega), mul_ok 41 16 (by omega) (by omega) (by omega) (by omega) (by omega) (by omega) (by omega), ?_⟩
      generalize hm1 : (cell * 40503 + (turn + 1) * 52711 + 977) % 2147483629 = m1
      have m10 : 0 ≤ m1 := by rw [← hm1]; exact Int.emod_nonneg _ (by omega)
      have m11 : m1 < 2147483629 := by rw [← hm1]; exact Int.emod_lt_of_pos _ (by omega)
      have sq : (turn + 1) * (turn + 1) < 2 ^ 82 := by
        have h1 : (turn + 1) * (turn + 1) ≤ 1099511627776 * 1099511627776 := Int.mul_le_mul hM hM (by omega) (by omega)
        exact Int.lt_of_le_of_lt h1 (by decide)
      refine ⟨mul_ok 31 17 m10 (by omega) (by omega) (by omega) (by omega) (by omega) (by omega), mul_ok 41 41 (by omega) (by omega) (by omega) (by omega) (by omega) (by omega) (by omega), mul_ok 82 5 (Int.mul_nonneg (by omega) (by omega)) sq (by omega) (by omega) (by omega) (by omega) (by omega), mul_ok 21 3 hcb.1 (by omega) (by omega) (by omega) (by omega) (by omega) (by omega), ?_⟩
      generalize (m1 * 69069 + (turn + 1) * (turn + 1) * 17 + cell * 5) % 2147483629 = m2
      refine ⟨div_ok (by omega) (by omega), by omega, ?_⟩
      exact hk _ _ (Int.emod_nonneg _ (by omega)) (by have := Int.emod_lt_of_pos (m2 / 13) (show 0 < many by omega); omega) (tk great g0)
end Pf

namespace TL
open PySem PySem.Spec PyProof.Rows L2
theorem lc_map {α : Type} {xi : XI} {i : Nat} {xt : XT} {xe : XE} {st : S} {k : Ob → S → Prop} (g : α → T) (gi : T → α) (hg : ∀ a, gi (g a) = a) (l : List α) (p : α → Bool) (f : α → T) (h : ∀ k : List T → S → Prop, k (l.map g) st → xi st k) (hl : i < st.ds.length)
    (no : ∀ c, st.ds[i]? ≠ some (Slot.ow c)) (hz : l.length < sizeLine) (ht : ∀ a ∈ l, xt (st.put i (.fr (g a))) fun b s2 => s2 = st.put i (.fr (g a)) ∧ b = p a) (he : ∀ a ∈ l, p a = true → xe (st.put i (.fr (g a))) fun y s2 => s2 = st.put i (.fr (g a)) ∧ y = f a)
    (hk : k (.lst ((l.filter p).map f)) st) : xLc xi i xt xe st k := by
  refine h _ ⟨fun x => p (gi x), fun x => f (gi x), hl, no, by rw [List.length_map]; exact hz, fun x hx => ?_, fun x hx hp => ?_, ?_⟩
  · obtain ⟨a, ha, rfl⟩ := List.mem_map.mp hx
    show xt _ fun b s2 => _ ∧ b = p (gi (g a))
    rw [hg]
    exact ht a ha
  · obtain ⟨a, ha, rfl⟩ := List.mem_map.mp hx
    have hp : p (gi (g a)) = true := hp
    show xe _ fun y s2 => _ ∧ y = f (gi (g a))
    rw [hg] at hp ⊢
    exact he a ha hp
  · have e : ((l.map g).filter fun x => p (gi x)).map (fun x => f (gi x)) = (l.filter p).map f := by
      rw [List.filter_map, List.map_map]
      have e1 : ((fun x => p (gi x)) ∘ g) = p := by
        funext a
        show p (gi (g a)) = p a
        rw [hg]
      have e2 : ((fun x => f (gi x)) ∘ g) = f := by
        funext a
        show f (gi (g a)) = f a
        rw [hg]
      rw [e1, e2]
    rw [e]
    exact hk
theorem for_ov {D : Dx} {st : S} {xi : XI} {xg : XG} {xb : XS} {ts : List T} (W : Nat → S → Prop) (h : ∀ k : List T → S → Prop, k ts st → xi st k) (h0 : W 0 st)
    (hs : ∀ n x s, ts[n]? = some x → W n s → ∀ N : S → Prop, (∀ s', W (n + 1) s' → N s') → xg x s fun s' => xb { D with nx := N, ct := N, bk := D.nx } s') (hd : ∀ s, W ts.length s → D.nx s) : xFor xi xg xb D st :=
  for_over W h h0 (fun n x s hx w => hs n x s hx w _ fun _ z => z) hd
theorem sz1000 {n : Nat} (h : n ≤ 100000) : n < sizeLine := by rw [sizeLine_eq]; omega
theorem sz1000' {n : Nat} (h : n ≤ 100000) : n ≤ sizeLine := Nat.le_of_lt (sz1000 h)
end TL
namespace Pf
open PySem PySem.Spec PyProof.Rows L2 TL
theorem mapint (ns : List Int) : ns.map (fun j => T.int j) = ns.map T.int := rfl
theorem r_union_of : ∀ ts k, P_union_of ts k → x_union_of (enP k) (stP 3 ts) := by
  rintro ts k ⟨a, b, rfl, ha, hb, hk⟩
  simp [x_union_of]
  refine lc_map T.int toI1 (fun _ => rfl) b (fun r => decide (r ∉ a)) T.int ?_ (by simp) (by simp) (sz1000 (by omega)) ?_ ?_ ?_
  · intro k h
    simp
    exact h
  · intro r hr
    simp
  · intro r hr _
    simp
  · simp
    rw [← List.map_append]
    have l1 : (b.filter fun r => !decide (r ∈ a)).length ≤ b.length := List.length_filter_le _ _
    refine ⟨sz1000' (by omega), _, .t, ?_⟩
    simp
    simpa [uni] using hk
theorem r_without : ∀ ts k, P_without ts k → x_without (enP k) (stP 3 ts) := by
  rintro ts k ⟨a, r, rfl, ha, hk⟩
  simp [x_without]
  refine lc_map T.int toI1 (fun _ => rfl) a (fun o => decide (o ≠ r)) T.int ?_ (by simp) (by simp) (sz1000 (by omega)) ?_ ?_ ?_
  · intro k h
    simp
    exact h
  · intro o hr
    simp
  · intro r hr _
    simp
  · simp
    simpa [wo] using hk
end Pf

namespace Pf
open PySem PySem.Spec PyProof.Rows L2 TL
def oT : Option (List Int) → T
  | none => .non
  | some ns => tI ns
theorem r_are_sets : ∀ ts k, P_are_sets ts k → x_are_sets (enP k) (stP 4 ts) := by
  rintro ts k ⟨many, t, rfl, ok, hk⟩
  simp [x_are_sets, isi_tup ok]
  cases t with
  | tup us =>
    have hk : k (.fr (.bl (setsF (many - 1) none us))) := hk
    simp [isTup]
    refine for_over (ts := us) (fun n s => ∃ (o : Option (List Int)) (d : TL.Slot), s = ⟨[.fr (.int many), .fr (.tup us), .fr (oT o), d], none⟩ ∧ setsF (many - 1) none us = setsF (many - 1) (o.map tI) (us.drop n)) ?_ ?_ ?_ ?_
    · intro k h
      simp
      exact h
    · exact ⟨none, _, rfl, rfl⟩
    · rintro n x s hx ⟨o, d, rfl, hp⟩
      have okx := oks_at ok hx
      rw [drop_at hx] at hp
      simp
      refine ⟨_, _, rfl, okx, ?_⟩
      simp
      cases ha : asc (many - 1) x with
      | false =>
        simp
        refine kb hk ?_
        rw [hp]
        cases o <;> simp [setsF, ha]
      | true =>
        obtain ⟨e1, e2, e3⟩ := asc_tI ha
        generalize hn : toI x = ns at e1 e2 e3
        subst e1
        cases o with
        | none =>
          simp [oT, T.isNon]
          exact ⟨some ns, rfl, by rw [hp]; simp [setsF, ha]⟩
        | some ms =>
          simp [oT, T.isNon]
          have hp : setsF (many - 1) none us = ((asc (many - 1) (tI ns) && !tle (toI (tI ns)) (toI (tI ms))) && setsF (many - 1) (some (tI ns)) (us.drop (n + 1))) := hp
          rw [toI_tI, toI_tI, ha, Bool.true_and] at hp
          cases hc : tle ns ms with
          | true =>
            simp
            refine kb hk ?_
            rw [hp, hc]
            rfl
          | false =>
            simp
            exact ⟨some ns, rfl, by rw [hp, hc]; rfl⟩
    · rintro s ⟨o, d, rfl, hp⟩
      simp at hp
      simp
      refine kb hk ?_
      rw [hp]
      cases o <;> rfl
  | _ =>
    simp [isTup]
    exact hk
theorem bit_at {r : Int} (h0 : 0 ≤ r) (h1 : r < 6) : atI [T.int 1, T.int 2, T.int 4, T.int 8, T.int 16, T.int 32] r = some (.int (bitv r)) := by
  have : r = 0 ∨ r = 1 ∨ r = 2 ∨ r = 3 ∨ r = 4 ∨ r = 5 := by omega
  rcases this with rfl | rfl | rfl | rfl | rfl | rfl <;> rfl
theorem r__law_mask : ∀ ts k, P__law_mask ts k → x__law_mask (enP k) (stP 3 ts) := by
  rintro ts k ⟨ns, rfl, hr, hk⟩
  simp [x__law_mask]
  refine for_over (ts := ns.map T.int) (fun n s => ∃ d, s = ⟨[.fr (tI ns), .fr (.int (maskZ (ns.take n))), d], none⟩) ?_ ?_ ?_ ?_
  · intro k h
    simp
    exact h
  · exact ⟨_, rfl⟩
  · rintro n x s hx ⟨d, rfl⟩
    obtain ⟨r, h1, rfl⟩ := ints_get hx
    have hb := hr r (List.mem_of_getElem? h1)
    have hbit := bit_at hb.1 (by omega)
    simp [hbit]
    refine ⟨by rw [sizeLine_eq]; omega, ?_⟩
    rw [take_at h1]
    unfold maskZ
    rw [List.map_append, List.sum_append]
    simp
  · rintro s ⟨d, rfl⟩
    rw [List.length_map, List.take_length]
    simp
    exact hk
theorem oks_of_ok {f : T} (h : ∀ t, f = t → t.ok = true) : f.ok = true := h f rfl
theorem atI_suc {α : Type} {x : α} {l : List α} {n : Nat} {y : α} (h : l[n]? = some y) : atI (x :: l) (1 + (n : Int)) = some y := atI_of (by omega) (by rw [show (1 + (n : Int)).toNat = n + 1 by omega]; simpa using h)
theorem r__law_same : ∀ ts k, P__law_same ts k → x__law_same (enP k) (stP 4 ts) := by
  rintro ts k ⟨f, rfl, hf, hk⟩
  rcases hf with rfl | ⟨w, nss, rfl, hl, hls⟩
  · simp [x__law_same, T.isNon]
    exact hk
  · have okN : T.oks (nss.map tI) = true := oks_all.mpr fun t ht => by
      obtain ⟨ns, _, rfl⟩ := List.mem_map.mp ht
      exact oks_ints ns
    have okf : (T.tup (.str w :: nss.map tI)).ok = true := by
      show (true && T.oks (nss.map tI)) = true
      rw [okN]
      rfl
    have i0 : atI (.str w :: nss.map tI) 0 = some (.str w) := atI_of (by omega) rfl
    simp [x__law_same, T.isNon, isi_tup okf, isTup, i0, isi_str (show (T.str w).ok = true from rfl), isSt]
    refine for_over (ts := rgT 1 (nss.length + 1)) (fun n s => ∃ d2 d3, s = ⟨[.fr (.tup (.str w :: nss.map tI)), .fr (.tup (.str w :: nss.map tI)), d2, d3], none⟩) ?_ ?_ ?_ ?_
    · intro k h
      simp
      exact ⟨by omega, by omega, h⟩
    · exact ⟨_, _, rfl⟩
    · rintro n x s hx ⟨d2, d3, rfl⟩
      obtain ⟨rfl, hn⟩ := rgT_get hx
      have hn' : n < nss.length := by omega
      have hy : nss[n]? = some nss[n] := List.getElem?_eq_getElem hn'
      have hyl := hls nss[n] (List.getElem_mem hn')
      generalize nss[n] = ns at hy hyl
      have hi : atI (T.str w :: nss.map tI) (1 + (n : Int)) = some (tI ns) := atI_suc (by rw [List.getElem?_map, hy]; rfl)
      simp [hi, isi_tup (show (tI ns).ok = true from oks_ints ns), isTup]
      refine for_over (ts := rgT 0 ns.length) (fun m s => ∃ d3, s = ⟨[.fr (.tup (.str w :: nss.map tI)), .fr (.tup (.str w :: nss.map tI)), .fr (.int (1 + (n : Int))), d3], none⟩) ?_ ?_ ?_ ?_
      · intro k h
        simp [hi]
        exact ⟨by omega, h⟩
      · exact ⟨_, rfl⟩
      · rintro m x s hx ⟨d3, rfl⟩
        obtain ⟨rfl, hm⟩ := rgT_get hx
        have hm' : m < ns.length := by omega
        have hj : atI (ns.map T.int) (m : Int) = some (.int ns[m]) := atI_nat (by rw [List.getElem?_map, List.getElem?_eq_getElem hm']; rfl)
        simp [hi, hj, P__law_whole, P_is_integer]
        exact .inr rfl
      · rintro s ⟨d3, rfl⟩
        simp
    · rintro s ⟨d2, d3, rfl⟩
      simp
      exact hk
end Pf

namespace Pf
open PySem PySem.Spec PyProof.Rows L2 TL
theorem snoc_int (l : List Int) (r : Int) : l.map T.int ++ [T.int r] = (l ++ [r]).map T.int := by rw [List.map_append]; rfl
theorem perm_erase : ∀ (l : List Int) (i : Nat) (h : i < l.length), (l[i] :: l.eraseIdx i).Perm l
  | [], _, h => by simp at h
  | x :: l, 0, _ => List.Perm.refl _
  | x :: l, i + 1, h => by
    have h' : i < l.length := by simpa using h
    have := perm_erase l i h'
    exact (List.Perm.swap x l[i] (l.eraseIdx i)).trans (this.cons x)
theorem erase_map {α β : Type} (f : α → β) : ∀ (l : List α) (i : Nat), (l.map f).eraseIdx i = (l.eraseIdx i).map f
  | [], _ => rfl
  | x :: l, 0 => rfl
  | x :: l, i + 1 => congrArg (f x :: ·) (erase_map f l i)
theorem perm_pop {l out pool : List Int} {i : Nat} {x : Int} (h : l[i]? = some x) (p : (l ++ out).Perm pool) : (l.eraseIdx i ++ (out ++ [x])).Perm pool := by
  have hi := (List.getElem?_eq_some_iff.mp h).1
  have hx := (List.getElem?_eq_some_iff.mp h).2
  have q : (x :: l.eraseIdx i).Perm l := by
    rw [← hx]
    exact perm_erase l i hi
  have e : (l.eraseIdx i ++ (out ++ [x])).Perm ((x :: l.eraseIdx i) ++ out) := by
    rw [← List.append_assoc]
    exact List.perm_append_singleton x (l.eraseIdx i ++ out)
  exact (e.trans (q.append_right out)).trans p
theorem perm_rem {l out pool : List Int} {x : Int} (h : x ∈ l) (p : (l ++ out).Perm pool) : (l.erase x ++ (out ++ [x])).Perm pool := by
  have q : (x :: l.erase x).Perm l := (List.perm_cons_erase h).symm
  have e : (l.erase x ++ (out ++ [x])).Perm ((x :: l.erase x) ++ out) := by
    rw [← List.append_assoc]
    exact List.perm_append_singleton x (l.erase x ++ out)
  exact (e.trans (q.append_right out)).trans p
theorem inc_srt {l : List Int} (h : l.Nodup) : Inc (srt l) := by
  have h1 := srt_rising l
  have h2 : (srt l).Nodup := (srt_perm l).symm.nodup h
  unfold Inc
  exact (h1.and h2).imp fun {a b} ⟨x, y⟩ => by
    have : a ≠ b := y
    omega
theorem r__law_some : ∀ a ts tp k, P__law_some ts tp k → x__law_some (enT a k) (stT 7 a tp ts) := by
  rintro a ts tp k ⟨pool, least, b, rfl, nd, pl, l0, l1, htp, hb, hk⟩
  simp [x__law_some]
  have sl : (16777216 : Nat) = sizeLine := sizeLine_eq.symm
  refine for_ov (ts := pool.map T.int) (fun n s => ∃ (left out : List Int) (d5 : TL.Slot) (tp' : List T), s = ⟨[.fr (.adr a), .fr (.lst (pool.map T.int)), .fr (.int least), .ow (.lst (left.map T.int)), .ow (.lst (out.map T.int)), d5, .un], some (a, tp')⟩ ∧ TapeOk (b + n) tp' ∧ (left ++ out).Perm pool ∧ ∀ r ∈ pool.drop n, r ∈ left) ?_ ?_ ?_ ?_
  · intro k h
    simp
    exact h
  · exact ⟨pool, [], _, tp, rfl, htp, by simp, fun r h => by simpa using h⟩
  · rintro n x s hx ⟨left, out, d5, tp', rfl, htp', hp, hm⟩ N hN
    obtain ⟨r, h1, rfl⟩ := ints_get hx
    have hn : n < pool.length := (List.getElem?_eq_some_iff.mp h1).1
    rw [drop_at h1] at hm
    simp
    refine ⟨2, b + n, rfl, htp', by omega, by omega, fun q tp2 q0 q1 ht2 => ?_⟩
    simp
    by_cases c : q = 1
    · have hr : r ∈ left := hm r List.mem_cons_self
      have lo : out.length ≤ 6 := by
        have := hp.length_eq
        rw [List.length_append] at this
        omega
      simp [c]
      refine ⟨by omega, hr, hN _ ?_⟩
      refine ⟨left.erase r, out ++ [r], .fr (.int r), tp2, by rw [snoc_int], ht2, perm_rem hr hp, fun r' hr' => ?_⟩
      have ne : r' ≠ r := fun z => by
        subst z
        have := (List.nodup_iff_pairwise_ne.mp nd)
        have h2 := (List.pairwise_append.mp (show (pool.take n ++ pool.drop n).Pairwise (· ≠ ·) by rw [List.take_append_drop]; exact this)).2.1
        rw [drop_at h1] at h2
        exact (List.pairwise_cons.mp h2).1 r' hr' rfl
      exact (List.mem_erase_of_ne ne).mpr (hm r' (List.mem_cons_of_mem _ hr'))
    · simp [c]
      exact hN _ ⟨left, out, _, tp2, rfl, ht2, hp, fun r' hr' => hm r' (List.mem_cons_of_mem _ hr')⟩
  · rintro s ⟨left, out, d5, tp', rfl, htp', hp, _⟩
    rw [List.length_map] at htp'
    simp
    refine for_ov (ts := rgT 0 least) (fun n s => ∃ (left out : List Int) (d5 d6 : TL.Slot) (tp' : List T), s = ⟨[.fr (.adr a), .fr (.lst (pool.map T.int)), .fr (.int least), .ow (.lst (left.map T.int)), .ow (.lst (out.map T.int)), d5, d6], some (a, tp')⟩ ∧ TapeOk (b + 6 + n) tp' ∧ (left ++ out).Perm pool ∧ (n ≤ out.length ∨ left = [])) ?_ ?_ ?_ ?_
    · intro k h
      simp
      exact ⟨by omega, by omega, h⟩
    · exact ⟨left, out, _, _, tp', rfl, htp'.mono (by omega), hp, .inl (by omega)⟩
    · rintro n x s hx ⟨left, out, d5, d6, tp', rfl, htp', hp, hm⟩ N hN
      obtain ⟨rfl, hn⟩ := rgT_get hx
      have lo : left.length + out.length = pool.length := by
        have := hp.length_eq
        rwa [List.length_append] at this
      simp
      rcases ltge (out.length : Int) least with c | c
      · rcases Nat.eq_zero_or_pos left.length with c2 | c2
        · have e : left = [] := List.length_eq_zero_iff.mp c2
          subst e
          simp [c, Int.not_le.mpr c]
          exact hN _ ⟨[], out, _, _, tp', rfl, htp'.mono (by omega), hp, .inr rfl⟩
        · have c3 : left ≠ [] := fun z => by
            rw [z] at c2
            exact absurd c2 (by simp)
          simp [c, Int.not_le.mpr c, c3, c2]
          refine ⟨(left.length : Int), b + 6 + n, rfl, htp', by omega, by omega, fun q tp2 q0 q1 ht2 => ?_⟩
          simp
          have q2 : q < left.length := by omega
          have hq : left[q.toNat]? = some left[q.toNat] := List.getElem?_eq_getElem (by omega)
          refine ⟨by omega, q.toNat, ixN_of q0 q2, .int left[q.toNat], ⟨_, hq, rfl⟩, by omega, hN _ ?_⟩
          refine ⟨left.eraseIdx q.toNat, out ++ [left[q.toNat]], d5, .fr (.int n), tp2, by rw [erase_map, snoc_int], ht2.mono (by omega), perm_pop hq hp, .inl ?_⟩
          rw [List.length_append]
          rcases hm with hm | hm
          · simp
            omega
          · exact absurd hm c3
      · simp [c, Int.not_lt.mpr c]
        exact hN _ ⟨left, out, _, _, tp', rfl, htp'.mono (by omega), hp, by
          rcases hm with hm | hm
          · exact .inl (by omega)
          · exact .inr hm⟩
    · rintro s ⟨left, out, d5, d6, tp', rfl, htp', hp, hm⟩
      rw [rgT_len] at htp' hm
      simp
      have ndo : out.Nodup := by
        have := hp.symm.nodup nd
        exact (List.nodup_append.mp this).2.1
      refine hk _ _ (inc_srt ndo) (fun r hr => ?_) (fun h => ?_) (htp'.mono (by omega))
      · have : r ∈ out := (srt_perm out).mem_iff.mp hr
        exact hp.mem_iff.mp (List.mem_append_right _ this)
      · rw [(srt_perm out).length_eq]
        rcases hm with hm | hm
        · omega
        · subst hm
          have := hp.length_eq
          simp at this
          omega
end Pf

namespace Pf
open PySem PySem.Spec PyProof.Rows L2 TL
theorem getD_snoc {l : List Int} {v : Int} {j : Nat} : (l ++ [v]).getD j 0 = if j < l.length then l.getD j 0 else if j = l.length then v else 0 := by
  rw [List.getD_eq_getElem?_getD, List.getD_eq_getElem?_getD]
  by_cases h : j < l.length
  · rw [if_pos h, List.getElem?_append_left h]
  · rw [if_neg h, List.getElem?_append_right (by omega)]
    by_cases e : j = l.length
    · rw [if_pos e, e, Nat.sub_self]
      rfl
    · rw [if_neg e]
      have : j - l.length ≠ 0 := by omega
      cases q : j - l.length with
      | zero => exact absurd q this
      | succ m => rfl
def RowM (up rules : List Int) (r : Int) (m : Nat) (row : List Int) : Prop := row.length = m ∧ (∀ j, j < m → (j : Int) = r → row.getD j 0 < 0) ∧ ∀ j : Nat, j < m → (j : Int) ∉ up → (j : Int) ∉ rules → row.getD j 0 ≤ 0
theorem RowM.snoc {up rules : List Int} {r : Int} {m : Nat} {row : List Int} (h : RowM up rules r m row) {v : Int} (h1 : (m : Int) = r → v < 0) (h2 : (m : Int) ∉ up → (m : Int) ∉ rules → v ≤ 0) : RowM up rules r (m + 1) (row ++ [v]) := by
  obtain ⟨e, a, b⟩ := h
  refine ⟨by rw [List.length_append, e]; rfl, fun j hj hr => ?_, fun j hj u1 u2 => ?_⟩
  · rw [getD_snoc, e]
    by_cases c : j < m
    · rw [if_pos c]
      exact a j c hr
    · have z : j = m := by omega
      rw [if_neg c, if_pos z]
      subst z
      exact h1 hr
  · rw [getD_snoc, e]
    by_cases c : j < m
    · rw [if_pos c]
      exact b j c u1 u2
    · have z : j = m := by omega
      rw [if_neg c, if_pos z]
      subst z
      exact h2 u1 u2
theorem at3 {α : Type} {x y z : α} {q : Int} (h0 : 0 ≤ q) (h1 : q < 3) : atI [x, y, z] q = some x ∨ atI [x, y, z] q = some y ∨ atI [x, y, z] q = some z := by
  have : q = 0 ∨ q = 1 ∨ q = 2 := by omega
  rcases this with rfl | rfl | rfl
  · exact .inl rfl
  · exact .inr (.inl rfl)
  · exact .inr (.inr rfl)
theorem at2 {α : Type} {x y : α} {q : Int} (h0 : 0 ≤ q) (h1 : q < 2) : atI [x, y] q = some x ∨ atI [x, y] q = some y := by
  have : q = 0 ∨ q = 1 := by omega
  rcases this with rfl | rfl
  · exact .inl rfl
  · exact .inr rfl
theorem at4 {α : Type} {x y z w : α} {q : Int} (h0 : 0 ≤ q) (h1 : q < 4) : atI [x, y, z, w] q = some x ∨ atI [x, y, z, w] q = some y ∨ atI [x, y, z, w] q = some z ∨ atI [x, y, z, w] q = some w := by
  have : q = 0 ∨ q = 1 ∨ q = 2 ∨ q = 3 := by omega
  rcases this with rfl | rfl | rfl | rfl
  · exact .inl rfl
  · exact .inr (.inl rfl)
  · exact .inr (.inr (.inl rfl))
  · exact .inr (.inr (.inr rfl))
theorem snoc_tI (l : List (List Int)) (r : List Int) : l.map tI ++ [T.tup (r.map T.int)] = (l ++ [r]).map tI := by rw [List.map_append]; rfl
theorem r__law_made : ∀ a ts tp k, P__law_made ts tp k → x__law_made (enT a k) (stT 10 a tp ts) := by
  rintro a ts tp k ⟨many, up, rules, size, b, rfl, hm, hrl, s0, s1, hr, htp, hb, hk⟩
  have sl : (16777216 : Nat) = sizeLine := sizeLine_eq.symm
  have Mx' : Mx = 1099511627776 := rfl
  simp [x__law_made]
  refine for_ov (ts := rules.map T.int) (fun n s => ∃ (rws : List (List Int)) (d6 d7 d8 d9 : TL.Slot) (tp' : List T), s = ⟨[.fr (.adr a), .fr (.int many), .fr (tI up), .fr (tI rules), .fr (.int size), .ow (.lst (rws.map tI)), d6, d7, d8, d9], some (a, tp')⟩ ∧ TapeOk (b + 12 * n) tp' ∧ rws.length = n ∧
    ∀ (i : Nat) (r : Int) (rw : List Int), rules[i]? = some r → rws[i]? = some rw → RowOk many up rules r rw) ?_ ?_ ?_ ?_
  · intro k h
    simp
    exact h
  · exact ⟨[], _, _, _, _, tp, rfl, htp, rfl, fun i r rw h1 h2 => by simp at h2⟩
  · rintro n x s hx ⟨rws, d6, d7, d8, d9, tp', rfl, htp', hl, hro⟩ N hN
    obtain ⟨r, h1, rfl⟩ := ints_get hx
    have hn : n < rules.length := (List.getElem?_eq_some_iff.mp h1).1
    have hrr := hr r (List.mem_of_getElem? h1)
    simp
    refine for_ov (ts := rgT 0 many) (fun m s => ∃ (row : List Int) (d8 d9 : TL.Slot) (tp' : List T), s = ⟨[.fr (.adr a), .fr (.int many), .fr (tI up), .fr (tI rules), .fr (.int size), .ow (.lst (rws.map tI)), .fr (.int r), .ow (.lst (row.map T.int)), d8, d9], some (a, tp')⟩ ∧ TapeOk (b + 12 * n + 2 * m) tp' ∧ RowM up rules r m row) ?_ ?_ ?_ ?_
    · intro k h
      simp
      exact ⟨by omega, h⟩
    · exact ⟨[], _, _, tp', rfl, htp', rfl, fun j h => absurd h (by omega), fun j h => absurd h (by omega)⟩
    · rintro m x s hx2 ⟨row, d8', d9', tp2, rfl, htp2, hM⟩ N2 hN2
      obtain ⟨rfl, hm2⟩ := rgT_get hx2
      have lrow : row.length = m := hM.1
      simp
      refine ⟨size + 1, b + 12 * n + 2 * m, rfl, htp2, by omega, by omega, fun part tp3 p0 p1 ht3 => ?_⟩
      simp
      have fin : ∀ (v : Int) (tp4 : List T), TapeOk (b + 12 * n + 2 * m + 2) tp4 → ((m : Int) = r → v < 0) → ((m : Int) ∉ up → (m : Int) ∉ rules → v ≤ 0) → N2 ⟨[.fr (.adr a), .fr (.int many), .fr (tI up), .fr (tI rules), .fr (.int size), .ow (.lst (rws.map tI)), .fr (.int r), .ow (.lst (row.map T.int ++ [.int v])), .fr (.int m), .fr (.int part)], some (a, tp4)⟩ := fun v tp4 h4 c1 c2 => hN2 _ ⟨row ++ [v], .fr (.int m), .fr (.int part), tp4, by rw [snoc_int], h4, hM.snoc c1 c2⟩
      by_cases c1 : (m : Int) = r
      · simp [c1]
        refine ⟨by omega, by omega, ?_⟩
        have e0 : 0 ≤ part % size := Int.emod_nonneg _ (by omega)
        have z := fin (-1 - part % size) tp3 (ht3.mono (by omega)) (fun _ => by omega) (fun _ _ => by omega)
        rw [c1] at z
        exact z
      · simp [c1]
        by_cases c2 : (m : Int) ∈ up
        · simp [c2]
          refine ⟨by omega, by omega, 3, b + 12 * n + 2 * m + 1, rfl, ht3, by omega, by omega, fun q tp4 q0 q1 ht4 => ?_⟩
          simp
          rcases at3 (x := T.int part) (y := T.int (1 + part % size)) (z := T.int (-part)) q0 (by omega) with e | e | e <;> simp [e] <;> exact ⟨by omega, fin _ tp4 ht4 (fun h => absurd h c1) (fun h => absurd c2 h)⟩
        · simp [c2]
          by_cases c3 : (m : Int) ∈ rules
          · simp [c3]
            refine ⟨by omega, 3, b + 12 * n + 2 * m + 1, rfl, ht3, by omega, by omega, fun q tp4 q0 q1 ht4 => ?_⟩
            simp
            rcases at3 (x := T.int part) (y := T.int (-part)) (z := T.int 0) q0 (by omega) with e | e | e <;> simp [e] <;> exact ⟨by omega, fin _ tp4 ht4 (fun h => absurd h c1) (fun _ h => absurd c3 h)⟩
          · simp [c3]
            refine ⟨by omega, 2, b + 12 * n + 2 * m + 1, rfl, ht3, by omega, by omega, fun q tp4 q0 q1 ht4 => ?_⟩
            simp
            rcases at2 (x := T.int 0) (y := T.int (-part)) q0 (by omega) with e | e <;> simp [e] <;> exact ⟨by omega, by first | exact fin 0 tp4 ht4 (fun h => absurd h c1) (fun _ _ => by omega) | exact fin (-part) tp4 ht4 (fun h => absurd h c1) (fun _ _ => by omega)⟩
    · rintro s ⟨row, d8', d9', tp2, rfl, htp2, hM⟩
      rw [rgT_len] at htp2 hM
      simp
      refine ⟨by omega, hN _ ⟨rws ++ [row], .fr (.int r), .fr (.lst (row.map T.int)), d8', d9', tp2, by rw [snoc_tI], htp2.mono (by omega), by rw [List.length_append, hl]; rfl, fun i r' rw' hi hrw => ?_⟩⟩
      by_cases c : i < n
      · rw [List.getElem?_append_left (by omega)] at hrw
        exact hro i r' rw' hi hrw
      · have hz := (List.getElem?_eq_some_iff.mp hrw).1
        rw [List.length_append] at hz
        have : i = n := by
          simp at hz
          omega
        subst this
        rw [List.getElem?_append_right (by omega), hl, Nat.sub_self] at hrw
        have e1 : row = rw' := Option.some.inj hrw
        rw [h1] at hi
        cases hi
        subst e1
        obtain ⟨z1, z2, z3⟩ := hM
        refine ⟨by omega, z2 r.toNat (by omega) (by omega), fun j hj u1 u2 => z3 j (by omega) u1 u2⟩
  · rintro s ⟨rws, d6, d7, d8, d9, tp', rfl, htp', hl, hro⟩
    rw [List.length_map] at htp' hl
    simp
    exact hk rws tp' hl hro (htp'.mono (by omega))
end Pf

namespace TL
def Loop (xg : XG) (xb : XS) (D : Dx) (ts : List T) (s1 : S) : Prop := ∃ W : Nat → S → Prop, W 0 s1 ∧ (∀ n x s, ts[n]? = some x → W n s → xg x s fun s' => xb { D with nx := W (n + 1), ct := W (n + 1), bk := D.nx } s') ∧ ∀ s, W ts.length s → D.nx s
theorem for_eq {xi : XI} {xg : XG} {xb : XS} {D : Dx} {st : S} : xFor xi xg xb D st = xi st (Loop xg xb D) := rfl
theorem loop_ov {D : Dx} {st : S} {xg : XG} {xb : XS} {ts : List T} (W : Nat → S → Prop) (h0 : W 0 st)
    (hs : ∀ n x s, ts[n]? = some x → W n s → ∀ N : S → Prop, (∀ s', W (n + 1) s' → N s') → xg x s fun s' => xb { D with nx := N, ct := N, bk := D.nx } s') (hd : ∀ s, W ts.length s → D.nx s) : Loop xg xb D ts st :=
  ⟨W, h0, fun n x s hx w => hs n x s hx w _ fun _ z => z, hd⟩
end TL
namespace Pf
open PySem PySem.Spec PyProof.Rows L2 TL
theorem rg_nat (m : Nat) : rgT 0 (m : Int) = (List.range m).map fun (n : Nat) => T.int (n : Int) := by
  unfold rgT
  rw [show ((m : Int) - 0).toNat = m by omega]
  refine List.map_congr_left fun n _ => ?_
  rw [Int.zero_add]
theorem rg_full (m : Nat) : rgT 0 (m : Int) = (full m).map T.int := by
  rw [rg_nat]
  unfold full
  rw [List.map_map]
  rfl
theorem full_len (m : Nat) : (full m).length = m := by
  unfold full
  rw [List.length_map, List.length_range]
theorem full_mem {m : Nat} {i : Int} : i ∈ full m ↔ 0 ≤ i ∧ i < m := by
  unfold full
  rw [List.mem_map]
  constructor
  · rintro ⟨n, h, rfl⟩
    rw [List.mem_range] at h
    omega
  · rintro ⟨h1, h2⟩
    exact ⟨i.toNat, List.mem_range.mpr (by omega), by omega⟩
theorem full_inc (m : Nat) : Inc (full m) := by
  unfold Inc full
  refine List.pairwise_map.mpr ?_
  exact (List.pairwise_lt_range (n := m)).imp fun {a b} h => by omega
theorem full_nodup (m : Nat) : (full m).Nodup := (full_inc m).imp fun {a b} h => by
  show a ≠ b
  omega
theorem nodup_erase {l : List Int} {i : Nat} {x : Int} (h : l.Nodup) (hx : l[i]? = some x) : (l.eraseIdx i).Nodup ∧ x ∉ l.eraseIdx i ∧ ∀ y ∈ l.eraseIdx i, y ∈ l := by
  have hi := (List.getElem?_eq_some_iff.mp hx).1
  have he := (List.getElem?_eq_some_iff.mp hx).2
  have q : (x :: l.eraseIdx i).Perm l := by
    rw [← he]
    exact perm_erase l i hi
  have n := q.symm.nodup h
  rw [List.nodup_cons] at n
  exact ⟨n.2, n.1, fun y hy => q.mem_iff.mp (List.mem_cons_of_mem _ hy)⟩
theorem rows_set (rows : List (List Int)) (i : Nat) (row : List Int) : (rows.map tI).set i (T.tup (row.map T.int)) = (rows.set i row).map tI := by rw [List.map_set]
theorem wide_set {many : Nat} {rows : List (List Int)} {i : Nat} {row : List Int} (h : Wide many rows) (hr : row.length = many) : Wide many (rows.set i row) := fun rw' q => by
  rcases List.mem_or_eq_of_mem_set q with z | z
  · exact h _ z
  · rw [z]
    exact hr
structure WI (many : Nat) (total : Nat) (rws : List (List Int)) (n : Nat) (rows : List (List Int)) (nums left : List Int) : Prop where
  wide : Wide many rows
  len : rows.length = total
  nd : left.Nodup
  lr : ∀ x ∈ left, 0 ≤ x ∧ x < total
  ll : left.length + n + 1 = total
  nl : nums.length = n
  at' : ∀ (i : Nat) (x : Int), nums[i]? = some x → x ∉ left ∧ 0 ≤ x ∧ x < total ∧ rws[i]? = some (rows.getD x.toNat [])
theorem WI.step {many total : Nat} {rws : List (List Int)} {n : Nat} {rows : List (List Int)} {nums left : List Int} (w : WI many total rws n rows nums left) {row : List Int} (hrow : rws[n]? = some row) (hw : row.length = many) {j : Nat} {x : Int} (hx : left[j]? = some x) :
    WI many total rws (n + 1) (rows.set x.toNat row) (nums ++ [x]) (left.eraseIdx j) := by
  have hb := w.lr x (List.mem_of_getElem? hx)
  obtain ⟨e1, e2, e3⟩ := nodup_erase w.nd hx
  have hj := (List.getElem?_eq_some_iff.mp hx).1
  refine ⟨wide_set w.wide hw, by rw [List.length_set]; exact w.len, e1, fun y hy => w.lr y (e3 y hy), ?_, by rw [List.length_append, w.nl]; rfl, fun i y hi => ?_⟩
  · have := w.ll
    rw [List.length_eraseIdx_of_lt hj]
    omega
  · by_cases c : i < n
    · rw [List.getElem?_append_left (by rw [w.nl]; exact c)] at hi
      obtain ⟨g1, g2, g3, g4⟩ := w.at' i y hi
      have ne : y ≠ x := fun z => g1 (by rw [z]; exact List.mem_of_getElem? hx)
      refine ⟨fun z => g1 (e3 y z), g2, g3, ?_⟩
      rw [g4, List.getD_eq_getElem?_getD, List.getD_eq_getElem?_getD, List.getElem?_set_ne (by omega)]
    · have hz := (List.getElem?_eq_some_iff.mp hi).1
      rw [List.length_append, w.nl] at hz
      have : i = n := by
        simp at hz
        omega
      subst this
      rw [List.getElem?_append_right (by rw [w.nl]; omega), w.nl, Nat.sub_self] at hi
      have e : x = y := Option.some.inj hi
      subst e
      refine ⟨e2, hb.1, hb.2, ?_⟩
      rw [hrow, List.getD_eq_getElem?_getD, List.getElem?_set_self (by rw [w.len]; omega)]
      rfl
theorem flatten_rep (m : Nat) : (List.replicate m [T.int 0]).flatten = (List.replicate m (0 : Int)).map T.int := by
  induction m with
  | zero => rfl
  | succ n ih => rw [List.replicate_succ, List.flatten_cons, ih, List.replicate_succ]; rfl
theorem r__law_world : ∀ a ts tp k, P__law_world ts tp k → x__law_world (enT a k) (stT 15 a tp ts) := by
  rintro a ts tp k ⟨many, up, rules, b, rfl, hm, hrl, hr, htp, hb, hk⟩
  have sl : (16777216 : Nat) = sizeLine := sizeLine_eq.symm
  have Mx' : Mx = 1099511627776 := rfl
  simp [x__law_world]
  refine ⟨by omega, 4, b, rfl, htp, by omega, by omega, fun q1 tp1 a1 b1 ht1 => ?_⟩
  simp
  obtain ⟨size, hs, s0, s1⟩ : ∃ size : Int, atI [T.int 1, T.int 3, T.int 12, T.int 1000000] q1 = some (.int size) ∧ 1 ≤ size ∧ size ≤ 1000000 := by
    rcases at4 (x := T.int 1) (y := T.int 3) (z := T.int 12) (w := T.int 1000000) a1 (by omega) with e | e | e | e
    · exact ⟨1, e, by omega, by omega⟩
    · exact ⟨3, e, by omega, by omega⟩
    · exact ⟨12, e, by omega, by omega⟩
    · exact ⟨1000000, e, by omega, by omega⟩
  simp [hs]
  refine ⟨by omega, 4, b + 1, rfl, ht1, by omega, by omega, fun q2 tp2 a2 b2 ht2 => ?_⟩
  simp
  obtain ⟨total, ht, t0, t1⟩ : ∃ total : Nat, atI [T.int 7, T.int 9, T.int 13, T.int 200] q2 = some (.int (total : Int)) ∧ 7 ≤ total ∧ total ≤ 200 := by
    rcases at4 (x := T.int 7) (y := T.int 9) (z := T.int 13) (w := T.int 200) a2 (by omega) with e | e | e | e
    · exact ⟨7, e, by omega, by omega⟩
    · exact ⟨9, e, by omega, by omega⟩
    · exact ⟨13, e, by omega, by omega⟩
    · exact ⟨200, e, by omega, by omega⟩
  simp [ht]
  refine ⟨50, b + 2, rfl, ht2, by omega, by omega, fun first tp3 a3 b3 ht3 => ?_⟩
  simp
  refine ⟨50, b + 3, rfl, ht3, by omega, by omega, fun second tp4 a4 b4 ht4 => ?_⟩
  simp
  refine for_ov (ts := rgT 0 total) (fun n s => ∃ (rows : List (List Int)) (d9 d10 : TL.Slot), s = ⟨[.fr (.adr a), .fr (.int many), .fr (tI up), .fr (tI rules), .fr (.int size), .fr (.int total), .fr (.int first), .fr (.int (1 + second)), .ow (.lst (rows.map tI)), d9, d10, .un, .un, .un, .un], some (a, tp4)⟩ ∧ Wide many rows ∧ rows.length = n) ?_ ?_ ?_ ?_
  · intro k h
    simp
    exact ⟨by omega, h⟩
  · exact ⟨[], _, _, rfl, fun rw' h => by simp at h, rfl⟩
  · rintro n x s hx ⟨rows, d9, d10, rfl, hw, hl⟩ N hN
    obtain ⟨rfl, hn⟩ := rgT_get hx
    simp
    refine lc_map (fun (n : Nat) => T.int (n : Int)) (fun t => (toI1 t).toNat) (fun n => by simp [toI1]) (List.range many) (fun _ => true) (fun r => T.int ((first * ((r : Int) + 3) + (1 + second) * ((n : Int) + 1) * ((r : Int) * 2 + 5) + (n : Int) * (n : Int)) % (2 * size + 1) - size)) ?_ (by simp) (by simp) (sz1000 (by simp; omega)) ?_ ?_ ?_
    · intro k h
      simp
      rw [← rg_nat] at h
      exact ⟨by omega, h⟩
    · intro r hr'
      simp
    · intro r hr' _
      rw [List.mem_range] at hr'
      simp
      have p1 : 0 ≤ (1 + second) * ((n : Int) + 1) := Int.mul_nonneg (by omega) (by omega)
      have p2 : (1 + second) * ((n : Int) + 1) ≤ 50 * 200 := Int.mul_le_mul (by omega) (by omega) (by omega) (by omega)
      exact ⟨mul_ok 6 5 (by omega) (by omega) (by omega) (by omega) (by omega) (by omega) (by omega), mul_ok 6 8 (by omega) (by omega) (by omega) (by omega) (by omega) (by omega) (by omega), mul_ok 3 2 (by omega) (by omega) (by omega) (by omega) (by omega) (by omega) (by omega),
        mul_ok 14 5 p1 (by omega) (by omega) (by omega) (by omega) (by omega) (by omega), mul_ok 8 8 (by omega) (by omega) (by omega) (by omega) (by omega) (by omega) (by omega), mul_ok 2 20 (by omega) (by omega) (by omega) (by omega) (by omega) (by omega) (by omega), by omega⟩
    · simp
      refine ⟨by omega, ?_⟩
      have e : (List.range many).map (fun (r : Nat) => T.int ((first * ((r : Int) + 3) + (1 + second) * ((n : Int) + 1) * ((r : Int) * 2 + 5) + (n : Int) * (n : Int)) % (2 * size + 1) - size)) = ((List.range many).map (fun (r : Nat) => (first * ((r : Int) + 3) + (1 + second) * ((n : Int) + 1) * ((r : Int) * 2 + 5) + (n : Int) * (n : Int)) % (2 * size + 1) - size)).map T.int := by
        rw [List.map_map]
        rfl
      rw [List.filter_eq_self.mpr (fun _ _ => rfl), e]
      refine hN _ ⟨rows ++ [_], .fr (.int n), _, by rw [snoc_tI], fun rw' h => ?_, by rw [List.length_append, hl]; rfl⟩
      rcases List.mem_append.mp h with h | h
      · exact hw _ h
      · rw [List.mem_singleton.mp h, List.length_map, List.length_range]
  · rintro s ⟨rows, d9, d10, rfl, hw, hl⟩
    rw [rgT_len] at hl
    have hl : rows.length = total := by omega
    simp
    refine ⟨⟨by omega, by omega, by omega, by omega, by omega⟩, ?_⟩
    rw [rg_full]
    simp [full_len]
    refine ⟨(total : Int), b + 4, rfl, ht4, by omega, by omega, fun q5 tp5 a5 b5 ht5 => ?_⟩
    simp
    have fl := full_len total
    have f5 : (full total)[q5.toNat]? = some q5 := by
      unfold full
      rw [List.getElem?_map, List.getElem?_range (by omega)]
      simp
      omega
    refine ⟨by omega, q5.toNat, ixN_of a5 (by omega), _, ⟨_, f5, rfl⟩, ?_⟩
    refine ⟨by omega, by omega, by omega, q5, rfl, q5.toNat, ixN_of a5 (by omega), ?_⟩
    rw [show List.replicate many (T.int 0) = (List.replicate many (0 : Int)).map T.int by rw [List.map_replicate], rows_set, for_eq]
    simp
    refine ⟨many, up, rules, size, b + 5, rfl, hm, hrl, s0, s1, hr, ht5.mono (by omega), by omega, fun rws tp6 hrl6 hro6 ht6 => ?_⟩
    simp
    obtain ⟨n1, n2, n3⟩ := nodup_erase (full_nodup total) f5
    refine loop_ov (fun n s => ∃ (rows : List (List Int)) (nums left : List Int) (d9 d10 : TL.Slot) (tp' : List T), s = ⟨[.fr (.adr a), .fr (.int many), .fr (tI up), .fr (tI rules), .fr (.int size), .fr (.int total), .fr (.int first), .fr (.int (1 + second)), .ow (.lst (rows.map tI)), d9, d10, .ow (.lst (left.map T.int)), .fr (.int q5), .ow (.lst (nums.map T.int)), .un], some (a, tp')⟩ ∧ TapeOk (b + 77 + 2 * n) tp' ∧ WI many total rws n rows nums left) ?_ ?_ ?_
    · refine ⟨rows.set q5.toNat (List.replicate many 0), [], (full total).eraseIdx q5.toNat, d9, d10, tp6, by rw [erase_map, ← rows_set]; rfl, ht6.mono (by omega), wide_set hw (by rw [List.length_replicate]), by rw [List.length_set]; exact hl, n1, fun x hx => full_mem.mp (n3 x hx), ?_, rfl, fun i x h => by simp at h⟩
      rw [List.length_eraseIdx_of_lt (by omega)]
      omega
    · rintro n x s hx ⟨rows, nums, left, d9, d10, tp', rfl, htp', w⟩ N hN
      obtain ⟨row, h1, rfl⟩ := map_get hx
      have hn : n < rws.length := (List.getElem?_eq_some_iff.mp h1).1
      have hrow := (hro6 n rules[n] row (List.getElem?_eq_getElem (by omega)) h1).1
      have wl := w.ll
      have wlen := w.len
      have wnl := w.nl
      simp
      refine ⟨(left.length : Int), b + 77 + 2 * n, rfl, htp', by omega, by omega, fun q7 tp7 a7 b7 ht7 => ?_⟩
      simp
      refine ⟨by omega, 3, b + 77 + 2 * n + 1, rfl, ht7, by omega, by omega, fun q8 tp8 a8 b8 ht8 => ?_⟩
      simp
      obtain ⟨j, hj, j0, j1⟩ : ∃ j : Int, atI [T.int 0, T.int ((left.length : Int) - 1), T.int q7] q8 = some (.int j) ∧ 0 ≤ j ∧ j < left.length := by
        rcases at3 (x := T.int 0) (y := T.int ((left.length : Int) - 1)) (z := T.int q7) a8 (by omega) with e | e | e
        · exact ⟨_, e, by omega, by omega⟩
        · exact ⟨_, e, by omega, by omega⟩
        · exact ⟨_, e, by omega, by omega⟩
      simp [hj]
      have hx' : left[j.toNat]? = some left[j.toNat] := List.getElem?_eq_getElem (by omega)
      generalize left[j.toNat] = y at hx'
      have hyb := w.lr y (List.mem_of_getElem? hx')
      refine ⟨by omega, j.toNat, ixN_of j0 (by omega), .int y, ⟨y, hx', rfl⟩, y, rfl, y.toNat, ixN_of hyb.1 (by omega), by omega, ?_⟩
      rw [rows_set]
      exact hN _ ⟨_, _, _, .fr (.int y), .fr (tI row), tp8, by rw [erase_map, snoc_int], ht8.mono (by omega), w.step h1 hrow hx'⟩
    · rintro s ⟨rows, nums, left, d9, d10, tp', rfl, htp', w⟩
      rw [List.length_map] at htp' w
      have wlen := w.len
      have wnl := w.nl
      simp
      refine ⟨by omega, by omega, ?_⟩
      refine hk rows nums q5 tp' w.wide (by omega) (by omega) ⟨by omega, fun i r n hi hn => ?_⟩ a5 (by omega) (htp'.mono (by omega))
      obtain ⟨g1, g2, g3, g4⟩ := w.at' i n hn
      exact ⟨g2, by omega, hro6 i r _ hi g4⟩
end Pf

namespace TL
open PySem PySem.Spec PyProof.Rows L2
@[simp] theorem oks_app (xs ys : List T) : T.oks (xs ++ ys) = (T.oks xs && T.oks ys) := by
  rw [Bool.eq_iff_iff, Bool.and_eq_true, oks_all, oks_all, oks_all]
  exact ⟨fun h => ⟨fun t ht => h t (List.mem_append_left _ ht), fun t ht => h t (List.mem_append_right _ ht)⟩, fun ⟨h1, h2⟩ t ht => (List.mem_append.mp ht).elim (h1 t) (h2 t)⟩
@[simp] theorem oks_intsb (ns : List Int) : T.oks (ns.map T.int) = true := oks_ints ns
theorem cut_sub {α : Type} (xs : List α) (lo hi : Option Int) : (cut xs lo hi).Sublist xs := ((List.take_sublist _ _).trans (List.drop_sublist _ _))
theorem oks_sub {xs ys : List T} (h : xs.Sublist ys) (o : T.oks ys = true) : T.oks xs = true := oks_all.mpr fun t ht => oks_all.mp o t (h.subset ht)
@[simp] theorem oks_cut (ns : List Int) (lo hi : Option Int) : T.oks (cut (ns.map T.int) lo hi) = true := oks_sub (cut_sub _ lo hi) (oks_ints ns)
@[simp] theorem oks_rev (xs : List T) : T.oks xs.reverse = T.oks xs := by
  rw [Bool.eq_iff_iff, oks_all, oks_all]
  exact ⟨fun h t ht => h t (List.mem_reverse.mpr ht), fun h t ht => h t (List.mem_reverse.mp ht)⟩
def revK (k : T → S → Prop) (s1 : S) : T → Prop
  | .lst ts => k (.lst ts.reverse) s1
  | .tup ts => k (.tup ts.reverse) s1
  | _ => False
@[simp] theorem revK_t {k : T → S → Prop} {s1 : S} {ts : List T} : revK k s1 (.tup ts) = k (.tup ts.reverse) s1 := rfl
@[simp] theorem e_rev {x : XE} {st : S} {k : T → S → Prop} : xRev x st k = x st fun t s1 => revK k s1 t := by
  unfold xRev
  congr
end TL
namespace Pf
open PySem PySem.Spec PyProof.Rows L2 TL
def Good (n : Nat) (L : List T) : Prop := T.oks L = true ∧ (∀ t ∈ L, small2 t) ∧ L.length = n
theorem Good.snoc {n : Nat} {L : List T} (h : Good n L) {t : T} (h1 : t.ok = true) (h2 : small2 t) : Good (n + 1) (L ++ [t]) :=
  ⟨by simp [h.1, h1], fun u hu => (List.mem_append.mp hu).elim (h.2.1 u) fun q => by rw [List.mem_singleton.mp q]; exact h2, by rw [List.length_append, h.2.2]; rfl⟩
theorem seq_gen {x rest : XS} {D : Dx} {st : S} (W : S → Prop) (h1 : ∀ R : S → Prop, (∀ s, W s → R s) → x { D with nx := R } st) (h2 : ∀ s, W s → rest D s) : xSeq x rest D st := h1 _ h2
theorem fr_ow {t : T} {c : Ob} : TL.Slot.fr t ≠ TL.Slot.ow c := fun h => by cases h
theorem un_ow {c : Ob} : TL.Slot.un ≠ TL.Slot.ow c := fun h => by cases h
theorem oks_mapf {f : Int → T} {l : List Int} (h : ∀ r ∈ l, (f r).ok = true) : T.oks (l.map f) = true := oks_all.mpr fun t ht => by
  obtain ⟨r, hr, rfl⟩ := List.mem_map.mp ht
  exact h r hr
theorem lc_all {α : Type} {xi : XI} {i : Nat} {xe : XE} {st : S} {k : Ob → S → Prop} (g : α → T) (gi : T → α) (hg : ∀ a, gi (g a) = a) (l : List α) (f : α → T) (h : ∀ k : List T → S → Prop, k (l.map g) st → xi st k) (hl : i < st.ds.length)
    (no : ∀ c, st.ds[i]? ≠ some (TL.Slot.ow c)) (hz : l.length < sizeLine) (he : ∀ a ∈ l, xe (st.put i (.fr (g a))) fun y s2 => s2 = st.put i (.fr (g a)) ∧ y = f a) (hk : k (.lst (l.map f)) st) : xLc xi i xYes xe st k :=
  lc_map g gi hg l (fun _ => true) f h hl no hz (fun a _ => ⟨rfl, rfl⟩) (fun a ha _ => he a ha) (by rw [List.filter_eq_self.mpr (fun _ _ => rfl)]; exact hk)
theorem Good.snoc2 {n : Nat} {L : List T} (h : Good n L) {t u : T} (h1 : t.ok = true) (h2 : small2 t) (h3 : u.ok = true) (h4 : small2 u) : Good (n + 2) (L ++ [t, u]) := by
  have g := (h.snoc h1 h2).snoc h3 h4
  rwa [List.append_assoc] at g
theorem app_gd {i : Nat} {e : XE} {rest : XS} {D : Dx} {st : S} {n : Nat} {L : List T} (hL : Good n L) (h : st.ds[i]? = some (Slot.ow (.lst L))) (hn : n < 1000) (he : ∀ R : T → S → Prop, (∀ t, t.ok = true → small2 t → R t st) → e st R) (hr : ∀ L', Good (n + 1) L' → rest D (st.put i (.ow (.lst L')))) :
    xSeq (xDrop (xApp i e)) rest D st :=
  ⟨⟨L, h⟩, he _ fun t h1 h2 => ⟨L, h, by rw [hL.2.2]; exact sz1000 (by omega), hr _ (hL.snoc h1 h2)⟩⟩
theorem app_gd1 {i : Nat} {e : XE} {D : Dx} {st : S} {n : Nat} {L : List T} (hL : Good n L) (h : st.ds[i]? = some (Slot.ow (.lst L))) (hn : n < 1000) (he : ∀ R : T → S → Prop, (∀ t, t.ok = true → small2 t → R t st) → e st R) (hr : ∀ L', Good (n + 1) L' → D.nx (st.put i (.ow (.lst L')))) :
    xDrop (xApp i e) D st :=
  ⟨⟨L, h⟩, he _ fun t h1 h2 => ⟨L, h, by rw [hL.2.2]; exact sz1000 (by omega), hr _ (hL.snoc h1 h2)⟩⟩
theorem r__law_spoilt : ∀ a ts tp k, P__law_spoilt ts tp k → x__law_spoilt (enT a k) (stT 15 a tp ts) := by
  rintro a ts tp k ⟨many, total, rules, nums, nothing, b, rfl, hm, hto, hl, l1, l6, hr, htp, hb, hk⟩
  have Mx' : Mx = 1099511627776 := rfl
  have cl : ∀ (ns : List Int) (lo hi : Option Int), (cut (ns.map T.int) lo hi).length ≤ ns.length := fun ns lo hi => by
    have := (cut_sub (ns.map T.int) lo hi).length_le
    rwa [List.length_map] at this
  have cr1 : ∀ lo hi lo' hi', (cut (rules.map T.int) lo hi).length + (cut (rules.map T.int) lo' hi').length ≤ 16777216 := fun lo hi lo' hi' => by
    have h1 := cl rules lo hi
    have h2 := cl rules lo' hi'
    omega
  have cn1 : ∀ lo hi lo' hi', (cut (nums.map T.int) lo hi).length + (cut (nums.map T.int) lo' hi').length ≤ 16777216 := fun lo hi lo' hi' => by
    have h1 := cl nums lo hi
    have h2 := cl nums lo' hi'
    omega
  have cr2 : ∀ lo hi lo' hi', (cut (rules.map T.int) lo hi).length + (cut (rules.map T.int) lo' hi').length ≤ 1000 := fun lo hi lo' hi' => by
    have h1 := cl rules lo hi
    have h2 := cl rules lo' hi'
    omega
  have cn2 : ∀ lo hi lo' hi', (cut (nums.map T.int) lo hi).length + (cut (nums.map T.int) lo' hi').length ≤ 1000 := fun lo hi lo' hi' => by
    have h1 := cl nums lo hi
    have h2 := cl nums lo' hi'
    omega
  have cn3 : ∀ lo hi, (cut (nums.map T.int) lo hi).length ≤ 100 := fun lo hi => by
    have h1 := cl nums lo hi
    omega
  have cn4 := cn3
  have cr3 := cl rules
  have cr4 := cl rules
  have lr1 : rules.length ≤ 1000 := by omega
  have ln1 : nums.length ≤ 1000 := by omega
  have lr2 : rules.length + 1 ≤ 1000 := by omega
  have ln2 : nums.length + 1 ≤ 1000 := by omega
  have lr3 : rules.length + 1 ≤ 16777216 := by omega
  have ln3 : nums.length + 1 ≤ 16777216 := by omega
  have lr4 : 1 + rules.length ≤ 1000 := by omega
  have ln4 : 1 + nums.length ≤ 1000 := by omega
  have p0 : atI [tI rules, tI nums] 0 = some (tI rules) := rfl
  have p1 : atI [tI rules, tI nums] 1 = some (tI nums) := rfl
  simp [x__law_spoilt, p0, p1]
  refine ⟨(rules.length : Int), b, rfl, htp, by omega, by omega, fun place tp1 a1 b1 ht1 => ?_⟩
  simp
  have iP := atI_ints (ns := nums) (i := place) a1 (by omega)
  have i0 := atI_ints (ns := nums) (i := 0) (by omega) (by omega)
  generalize nums.getD place.toNat 0 = np at iP
  generalize nums.getD (0 : Int).toNat 0 = n0 at i0
  have ms : True := trivial
  rw [for_eq]
  simp [iP]
  refine ⟨(total : Int), b + 1, rfl, ht1, by omega, by omega, fun q2 tp2 a2 b2 ht2 => ?_⟩
  simp [iP, i0]
  refine ⟨by rw [sizeLine_eq]; omega, ⟨by omega, by omega, by decide⟩, by rw [sizeLine_eq]; omega, ?_⟩
  refine loop_ov (fun n s => ∃ (L : List T) (d9 d10 : TL.Slot), s = ⟨[.fr (.adr a), .fr (.int many), .fr (.int total), .fr (.tup [tI rules, tI nums]), .fr (.int nothing), .fr (tI rules), .fr (tI nums), .fr (.int place), .ow (.lst L), d9, d10, .un, .un, .un, .un], some (a, tp2)⟩ ∧ Good n L ∧ ∀ c, d9 ≠ .ow c) ?_ ?_ ?_
  · exact ⟨[], .un, .un, rfl, ⟨rfl, fun t h => by simp at h, rfl⟩, fun _ => un_ow⟩
  · rintro n x s hx ⟨L, d9, d10, rfl, hL, _⟩ N hN
    have hn : n < 10 := by
      have := (List.getElem?_eq_some_iff.mp hx).1
      simpa using this
    have okx : x.ok = true := by
      refine oks_at ?_ hx
      simp [T.oks]
    have sx : smallT x := by
      have hx' := List.mem_of_getElem? hx
      simp at hx'
      rcases hx' with h | h | h | h | h | h | h | h | h | h <;> subst h <;> simp [smallT]
    simp
    refine ⟨place.toNat, ixN_of a1 (by omega), ?_⟩
    have hset : T.oks ((nums.map T.int).set place.toNat x) = true := oks_all.mpr fun t ht => by
      rcases List.mem_or_eq_of_mem_set ht with q | q
      · exact oks_all.mp (oks_ints nums) t q
      · rw [q]
        exact okx
    refine ⟨by rw [sizeLine_eq]; omega, by rw [hL.2.2]; exact sz1000 (by omega), hN _ ⟨_, _, _, rfl, hL.snoc (by simp [hset]) (by simp [small2, smallT, lr1, ln1]), fun _ => fr_ow⟩⟩
  · rintro s ⟨L, d9, d10, rfl, hL, h9⟩
    have hL : Good 10 L := hL
    have ln5 : 1 + nums.length ≤ 16777216 := by omega
    have lr5 : 1 + rules.length ≤ 16777216 := by omega
    have nr2 : nums.length ≤ 1000 := by omega
    have np2 : rules.length ≤ 1000 := by omega
    try dsimp only
    refine app_gd hL rfl (by omega) (fun R hR => ?_) (fun L hL => ?_)
    · simp [iP, i0, cr1, cn1, lr1, ln1, lr3, ln3, ln5, lr5, sizeLine_eq]
      exact hR _ (by simp) (by simp [small2, smallT, cr2, cn2, lr1, ln1, lr2, ln2, ln4, lr4, nr2, np2])
    simp only [e_put, List.set_cons_succ, List.set_cons_zero]
    refine app_gd hL rfl (by omega) (fun R hR => ?_) (fun L hL => ?_)
    · simp [iP, i0, cr1, cn1, lr1, ln1, lr3, ln3, ln5, lr5, sizeLine_eq]
      exact hR _ (by simp) (by simp [small2, smallT, cr2, cn2, lr1, ln1, lr2, ln2, ln4, lr4, nr2, np2])
    simp only [e_put, List.set_cons_succ, List.set_cons_zero]
    refine app_gd hL rfl (by omega) (fun R hR => ?_) (fun L hL => ?_)
    · simp [iP, i0, cr1, cn1, lr1, ln1, lr3, ln3, ln5, lr5, sizeLine_eq]
      exact hR _ (by simp) (by simp [small2, smallT, cr2, cn2, lr1, ln1, lr2, ln2, ln4, lr4, nr2, np2])
    simp only [e_put, List.set_cons_succ, List.set_cons_zero]
    refine app_gd hL rfl (by omega) (fun R hR => ?_) (fun L hL => ?_)
    · simp [iP, i0, cr1, cn1, lr1, ln1, lr3, ln3, ln5, lr5, sizeLine_eq]
      exact hR _ (by simp) (by simp [small2, smallT, cr2, cn2, lr1, ln1, lr2, ln2, ln4, lr4, nr2, np2])
    simp only [e_put, List.set_cons_succ, List.set_cons_zero]
    refine app_gd hL rfl (by omega) (fun R hR => ?_) (fun L hL => ?_)
    · simp [iP, i0, cr1, cn1, lr1, ln1, lr3, ln3, ln5, lr5, sizeLine_eq]
      exact hR _ (by simp) (by simp [small2, smallT, cr2, cn2, lr1, ln1, lr2, ln2, ln4, lr4, nr2, np2])
    simp only [e_put, List.set_cons_succ, List.set_cons_zero]
    refine app_gd hL rfl (by omega) (fun R hR => ?_) (fun L hL => ?_)
    · simp [iP, i0, cr1, cn1, lr1, ln1, lr3, ln3, ln5, lr5, sizeLine_eq]
      exact hR _ (by simp) (by simp [small2, smallT, cr2, cn2, lr1, ln1, lr2, ln2, ln4, lr4, nr2, np2])
    simp only [e_put, List.set_cons_succ, List.set_cons_zero]
    refine app_gd hL rfl (by omega) (fun R hR => ?_) (fun L hL => ?_)
    · simp [iP, i0, cr1, cn1, lr1, ln1, lr3, ln3, ln5, lr5, sizeLine_eq]
      exact hR _ (by simp) (by simp [small2, smallT, cr2, cn2, lr1, ln1, lr2, ln2, ln4, lr4, nr2, np2])
    simp only [e_put, List.set_cons_succ, List.set_cons_zero]
    refine app_gd hL rfl (by omega) (fun R hR => ?_) (fun L hL => ?_)
    · simp [iP, i0, cr1, cn1, lr1, ln1, lr3, ln3, ln5, lr5, sizeLine_eq]
      exact hR _ (by simp) (by simp [small2, smallT, cr2, cn2, lr1, ln1, lr2, ln2, ln4, lr4, nr2, np2])
    simp only [e_put, List.set_cons_succ, List.set_cons_zero]
    refine app_gd hL rfl (by omega) (fun R hR => ?_) (fun L hL => ?_)
    · simp [iP, i0, cr1, cn1, lr1, ln1, lr3, ln3, ln5, lr5, sizeLine_eq]
      exact hR _ (by simp) (by simp [small2, smallT, cr2, cn2, lr1, ln1, lr2, ln2, ln4, lr4, nr2, np2])
    simp only [e_put, List.set_cons_succ, List.set_cons_zero]
    refine app_gd hL rfl (by omega) (fun R hR => ?_) (fun L hL => ?_)
    · simp [iP, i0, cr1, cn1, lr1, ln1, lr3, ln3, ln5, lr5, sizeLine_eq]
      exact hR _ (by simp) (by simp [small2, smallT, cr2, cn2, lr1, ln1, lr2, ln2, ln4, lr4, nr2, np2])
    simp only [e_put, List.set_cons_succ, List.set_cons_zero]
    simp only [e_seq, e_setw]
    refine lc_map (fun (n : Nat) => T.int (n : Int)) (fun t => (toI1 t).toNat) (fun n => by simp [toI1]) (List.range many) (fun n => decide ((n : Int) ∉ rules)) (fun n => T.int (n : Int)) ?_ (by simp) (by simp) (sz1000 (by simp; omega)) ?_ ?_ ?_
    · intro k h
      simp
      rw [← rg_nat] at h
      exact ⟨by omega, h⟩
    · intro r hr'
      simp
    · intro r hr' _
      simp
    generalize hF : ((List.range many).filter fun (n : Nat) => decide ((n : Int) ∉ rules)).map (fun (n : Nat) => (n : Int)) = F
    have eF : ((List.range many).filter fun (n : Nat) => decide ((n : Int) ∉ rules)).map (fun (n : Nat) => T.int (n : Int)) = F.map T.int := by
      rw [← hF, List.map_map]
      rfl
    have lF : F.length ≤ 6 := by
      rw [← hF, List.length_map]
      have := List.length_filter_le (fun (n : Nat) => decide ((n : Int) ∉ rules)) (List.range many)
      rw [List.length_range] at this
      omega
    rw [eF]
    refine ⟨by simp, ?_⟩
    refine ⟨F.map T.int, by simp, ?_⟩
    simp only [e_put, List.set_cons_succ, List.set_cons_zero]
    refine seq_gen (fun s => ∃ (n : Nat) (L : List T) (d9 d10 d11 d12 d13 d14 : TL.Slot) (tp' : List T), n ≤ 30 ∧ Good n L ∧ TapeOk (b + 5) tp' ∧ (∀ c, d9 ≠ .ow c) ∧ (∀ c, d12 ≠ .ow c) ∧ s = ⟨[.fr (.adr a), .fr (.int many), .fr (.int total), .fr (.tup [tI rules, tI nums]), .fr (.int nothing), .fr (tI rules), .fr (tI nums), .fr (.int place), .ow (.lst L), d9, d10, d11, d12, d13, d14], some (a, tp')⟩) (fun N hN => ?_) ?_
    · simp
      by_cases cF : F = []
      · simp [cF]
        exact hN _ ⟨20, L, _, _, _, _, _, _, _, by omega, hL, ht2.mono (by omega), h9, fun _ => un_ow, rfl⟩
      · have lF0 : 0 < F.length := List.length_pos_iff.mpr cF
        simp [cF, lF0]
        refine ⟨(F.length : Int), b + 2, rfl, ht2, by omega, by omega, fun q3 tp3 a3 b3 ht3 => ?_⟩
        have iF := atI_ints (ns := F) (i := q3) a3 (by omega)
        generalize F.getD q3.toNat 0 = rule at iF
        have hs : ∀ o, sortUR [.lst (rules.map T.int ++ [T.int rule])] o ↔ o = .lst ((srt (rules ++ [rule])).map T.int) := fun o => by
          rw [snoc_int, sortUR_l]
        simp [iF, hs]
        have wlen : (srt (rules ++ [rule])).length = rules.length + 1 := by rw [(srt_perm _).length_eq, List.length_append]; rfl
        refine ⟨by rw [sizeLine_eq]; omega, by rw [sizeLine_eq]; omega, (srt_perm _).mem_iff.mpr (by simp), (total : Int), b + 3, rfl, ht3, by omega, by omega, fun q4 tp4 a4 b4 ht4 => ?_⟩
        simp [iP]
        refine ⟨by rw [sizeLine_eq]; omega, 3, b + 4, rfl, ht4, by omega, by omega, fun q5 tp5 a5 b5 ht5 => ?_⟩
        simp
        obtain ⟨v, hv⟩ : ∃ v : Int, atI [T.int nothing, T.int q4, T.int np] q5 = some (.int v) := by
          rcases at3 (x := T.int nothing) (y := T.int q4) (z := T.int np) a5 (by omega) with e | e | e
          · exact ⟨_, e⟩
          · exact ⟨_, e⟩
          · exact ⟨_, e⟩
        have cn5 : ∀ lo hi, (cut (nums.map T.int) lo hi).length + 1 ≤ 16777216 := fun lo hi => by
          have h1 := cl nums lo hi
          omega
        have cn6 : ∀ lo hi lo' hi', (cut (nums.map T.int) lo hi).length + 1 + (cut (nums.map T.int) lo' hi').length ≤ 16777216 := fun lo hi lo' hi' => by
          have h1 := cl nums lo hi
          have h2 := cl nums lo' hi'
          omega
        have cn7 : ∀ lo hi lo' hi', (cut (nums.map T.int) lo hi).length + ((cut (nums.map T.int) lo' hi').length + 1) ≤ 1000 := fun lo hi lo' hi' => by
          have h1 := cl nums lo hi
          have h2 := cl nums lo' hi'
          omega
        have hset : (rules.map T.int).set place.toNat (T.int rule) = (rules.set place.toNat rule).map T.int := by rw [List.map_set]
        have hs2 : ∀ o, sortUR [.lst ((rules.map T.int).set place.toNat (T.int rule))] o ↔ o = .lst ((srt (rules.set place.toNat rule)).map T.int) := fun o => by
          rw [hset, sortUR_l]
        have ixp : ixN rules.length place = some place.toNat := ixN_of a1 (by omega)
        have slen : (srt (rules.set place.toNat rule)).length = rules.length := by rw [(srt_perm _).length_eq, List.length_set]
        simp [hv, cn5, cn6, sizeLine_eq, ixp, hs2]
        have hLn := hL.2.2
        refine ⟨by omega, by omega, hN _ ⟨22, _, _, _, _, _, _, _, _, by omega, hL.snoc2 ?_ ?_ ?_ ?_, ht5.mono (by omega), fun _ => fr_ow, fun _ => fr_ow, rfl⟩⟩
        · simp
        · simp [small2, smallT, cn7]
          omega
        · simp
        · simp [small2, smallT]
          omega
    · rintro s ⟨n, L, d9, d10, d11, d12, d13, d14, tp', hn, hL, ht, h9, h12, rfl⟩
      refine app_gd hL rfl (by omega) (fun R hR => ?_) (fun L hL => ?_)
      · simp
        refine lc_all T.int toI1 (fun _ => rfl) rules (fun r => if r = 1 then T.bl true else T.int r) ?_ (by simp) (by simp [h9, h12]) (sz1000 (by omega)) ?_ ?_
        · intro k h
          simp
          exact h
        · intro r hr'
          by_cases c : r = 1 <;> simp [c]
        · simp [sizeLine_eq]
          have ok := oks_mapf (l := rules) (f := fun r => if r = 1 then T.bl true else T.int r) (fun r _ => by by_cases c : r = 1 <;> by_cases d : r = 0 <;> simp [c, d])
          exact hR _ (by first | (simp [ok]; done) | (simp; exact ok)) (by simp [small2, smallT, lr1, ln1])
      simp only [e_put, List.set_cons_succ, List.set_cons_zero]
      refine app_gd hL rfl (by omega) (fun R hR => ?_) (fun L hL => ?_)
      · simp
        refine lc_all T.int toI1 (fun _ => rfl) rules (fun r => if r = 0 then T.bl false else T.int r) ?_ (by simp) (by simp [h9, h12]) (sz1000 (by omega)) ?_ ?_
        · intro k h
          simp
          exact h
        · intro r hr'
          by_cases c : r = 0 <;> simp [c]
        · simp [sizeLine_eq]
          have ok := oks_mapf (l := rules) (f := fun r => if r = 0 then T.bl false else T.int r) (fun r _ => by by_cases c : r = 1 <;> by_cases d : r = 0 <;> simp [c, d])
          exact hR _ (by first | (simp [ok]; done) | (simp; exact ok)) (by simp [small2, smallT, lr1, ln1])
      simp only [e_put, List.set_cons_succ, List.set_cons_zero]
      refine app_gd hL rfl (by omega) (fun R hR => ?_) (fun L hL => ?_)
      · simp
        refine lc_all T.int toI1 (fun _ => rfl) rules (fun r => T.str (toString r)) ?_ (by simp) (by simp [h9, h12]) (sz1000 (by omega)) ?_ ?_
        · intro k h
          simp
          exact h
        · intro r hr'
          have h1 := hr r hr'
          have h2 : r.natAbs < 2 ^ 3 := by omega
          have := PySem.Flt.log2_lt_of (by omega) h2
          simp
          omega
        · simp [sizeLine_eq]
          have ok := oks_mapf (l := rules) (f := fun r => T.str (toString r)) (fun r _ => by rfl)
          exact hR _ (by first | (simp [ok]; done) | (simp; exact ok)) (by simp [small2, smallT, lr1, ln1])
      simp only [e_put, List.set_cons_succ, List.set_cons_zero]
      refine app_gd hL rfl (by omega) (fun R hR => ?_) (fun L hL => ?_)
      · simp
        refine lc_all T.int toI1 (fun _ => rfl) nums (fun r => if r = 1 then T.bl true else T.int r) ?_ (by simp) (by simp [h9, h12]) (sz1000 (by omega)) ?_ ?_
        · intro k h
          simp
          exact h
        · intro r hr'
          by_cases c : r = 1 <;> simp [c]
        · simp [sizeLine_eq]
          have ok := oks_mapf (l := nums) (f := fun r => if r = 1 then T.bl true else T.int r) (fun r _ => by by_cases c : r = 1 <;> by_cases d : r = 0 <;> simp [c, d])
          exact hR _ (by first | (simp [ok]; done) | (simp; exact ok)) (by simp [small2, smallT, lr1, ln1])
      simp only [e_put, List.set_cons_succ, List.set_cons_zero]
      refine app_gd hL rfl (by omega) (fun R hR => ?_) (fun L hL => ?_)
      · simp
        refine lc_all T.int toI1 (fun _ => rfl) nums (fun r => if r = 0 then T.bl false else T.int r) ?_ (by simp) (by simp [h9, h12]) (sz1000 (by omega)) ?_ ?_
        · intro k h
          simp
          exact h
        · intro r hr'
          by_cases c : r = 0 <;> simp [c]
        · simp [sizeLine_eq]
          have ok := oks_mapf (l := nums) (f := fun r => if r = 0 then T.bl false else T.int r) (fun r _ => by by_cases c : r = 1 <;> by_cases d : r = 0 <;> simp [c, d])
          exact hR _ (by first | (simp [ok]; done) | (simp; exact ok)) (by simp [small2, smallT, lr1, ln1])
      simp only [e_put, List.set_cons_succ, List.set_cons_zero]
      refine app_gd hL rfl (by omega) (fun R hR => ?_) (fun L hL => ?_)
      · simp
        refine lc_all T.int toI1 (fun _ => rfl) nums (fun r => T.int (r - total)) ?_ (by simp) (by simp [h9, h12]) (sz1000 (by omega)) ?_ ?_
        · intro k h
          simp
          exact h
        · intro r hr'
          simp
        · simp [sizeLine_eq]
          have ok := oks_mapf (l := nums) (f := fun r => T.int (r - total)) (fun r _ => by rfl)
          exact hR _ (by first | (simp [ok]; done) | (simp; exact ok)) (by simp [small2, smallT, lr1, ln1])
      simp only [e_put, List.set_cons_succ, List.set_cons_zero]
      refine app_gd hL rfl (by omega) (fun R hR => ?_) (fun L hL => ?_)
      · simp [iP, i0, sizeLine_eq]
        exact hR _ (by simp) (by simp [small2, smallT, lr1, ln1])
      simp only [e_put, List.set_cons_succ, List.set_cons_zero]
      refine app_gd hL rfl (by omega) (fun R hR => ?_) (fun L hL => ?_)
      · simp [iP, i0, sizeLine_eq]
        exact hR _ (by simp) (by simp [small2, smallT, lr1, ln1])
      simp only [e_put, List.set_cons_succ, List.set_cons_zero]
      refine app_gd hL rfl (by omega) (fun R hR => ?_) (fun L hL => ?_)
      · simp [iP, i0, sizeLine_eq]
        exact hR _ (by simp) (by simp [small2, smallT, lr1, ln1])
      simp only [e_put, List.set_cons_succ, List.set_cons_zero]
      refine app_gd hL rfl (by omega) (fun R hR => ?_) (fun L hL => ?_)
      · simp [iP, i0, sizeLine_eq]
        exact hR _ (by simp) (by simp [small2, smallT, lr1, ln1])
      simp only [e_put, List.set_cons_succ, List.set_cons_zero]
      refine app_gd hL rfl (by omega) (fun R hR => ?_) (fun L hL => ?_)
      · simp [iP, i0, sizeLine_eq]
        exact hR _ (by simp) (by simp [small2, smallT, lr1, ln1])
      simp only [e_put, List.set_cons_succ, List.set_cons_zero]
      refine app_gd hL rfl (by omega) (fun R hR => ?_) (fun L hL => ?_)
      · simp [iP, i0, sizeLine_eq]
        exact hR _ (by simp) (by simp [small2, smallT, lr1, ln1])
      simp only [e_put, List.set_cons_succ, List.set_cons_zero]
      refine app_gd hL rfl (by omega) (fun R hR => ?_) (fun L hL => ?_)
      · simp [iP, i0, sizeLine_eq]
        exact hR _ (by simp) (by simp [small2, smallT, lr1, ln1])
      simp only [e_put, List.set_cons_succ, List.set_cons_zero]
      refine app_gd hL rfl (by omega) (fun R hR => ?_) (fun L hL => ?_)
      · simp [iP, i0, sizeLine_eq]
        exact hR _ (by simp) (by simp [small2, smallT, lr1, ln1])
      simp only [e_put, List.set_cons_succ, List.set_cons_zero]
      refine app_gd hL rfl (by omega) (fun R hR => ?_) (fun L hL => ?_)
      · simp [iP, i0, sizeLine_eq]
        exact hR _ (by simp) (by simp [small2, smallT, lr1, ln1])
      simp only [e_put, List.set_cons_succ, List.set_cons_zero]
      refine app_gd hL rfl (by omega) (fun R hR => ?_) (fun L hL => ?_)
      · simp [iP, i0, sizeLine_eq]
        exact hR _ (by simp) (by simp [small2, smallT, lr1, ln1])
      simp only [e_put, List.set_cons_succ, List.set_cons_zero]
      have hLn := hL.2.2
      simp
      exact hk L tp' hL.1 hL.2.1 (by omega) (by omega) ht
end Pf

namespace Pf
open PySem PySem.Spec PyProof.Rows L2 TL
theorem asc_of' {m : Int} : ∀ {ns : List Int} {a : Int}, (∀ r ∈ ns, a < r ∧ r ≤ m) → Inc ns → ascF m a (ns.map T.int) = true
  | [], _, _, _ => rfl
  | r :: ns, a, h1, h2 => by
    have h3 := h1 r List.mem_cons_self
    have h4 := List.pairwise_cons.mp h2
    show ((decide (a + 1 ≤ r) && decide (r ≤ m)) && ascF m r (ns.map T.int)) = true
    rw [decide_eq_true (by omega), decide_eq_true h3.2, asc_of' (fun q hq => ⟨h4.1 q hq, (h1 q (List.mem_cons_of_mem _ hq)).2⟩) h4.2]
    rfl
theorem asc_of {many : Nat} {ns : List Int} (h : InR many ns) (i : Inc ns) : asc ((many : Int) - 1) (tI ns) = true := asc_of' (fun r hr => by
  have := h r hr
  omega) i
theorem paper_ok {many : Nat} {rows : List (List Int)} {up lo rules nums : List Int} (p : PaperOk many rows up rules nums) (hr : InR many rules) (hi : Inc rules) (h0 : rules ≠ []) (hu : ∀ r ∈ up, r ∉ rules) (hl : ∀ r ∈ lo, r ∈ rules) : paperB many rows up lo (.tup [tI rules, tI nums]) = true := by
  have e1 : rules.isEmpty = false := by simpa using h0
  have e2 : (up.all fun r => decide (r ∉ rules)) = true := by
    rw [List.all_eq_true]
    exact fun r h => decide_eq_true (hu r h)
  have e3 : (lo.all fun r => decide (r ∈ rules)) = true := by
    rw [List.all_eq_true]
    exact fun r h => decide_eq_true (hl r h)
  have e4 : papersB rows rules (rules ++ up) (tI nums) = true := by
    show (decide ((nums.map T.int).length = rules.length) && pzB rows (rules ++ up) rules (nums.map T.int)) = true
    rw [List.length_map, decide_eq_true p.1, Bool.true_and]
    refine pz_true fun n r y h1 h2 => ?_
    obtain ⟨x, h3, rfl⟩ := ints_get h2
    obtain ⟨x0, x1, q1, q2, q3⟩ := p.2 n r x h1 h3
    unfold okAt
    have e5 : within 0 ((rows.length : Int) - 1) (.int x) = true := by simp [within]; omega
    rw [e5, Bool.true_and]
    show nwB (rules ++ up) r (rows.getD x.toNat []) = true
    refine nw_of q2 fun j hj => ?_
    by_cases c1 : (j : Int) ∈ rules
    · exact .inr (List.mem_append_left _ c1)
    · by_cases c2 : (j : Int) ∈ up
      · exact .inr (List.mem_append_right _ c2)
      · exact .inl (q3 j (by omega) c2 c1)
  simp only [paperB, toI_tI, asc_of hr hi, e1, e2, e3, e4]
  rfl
theorem paper_none {many : Nat} {rules nums : List Int} (hl : nums.length = rules.length) (h0 : rules ≠ []) : paperB many [] [] [] (.tup [tI rules, tI nums]) = false := by
  have e4 : papersB [] rules (rules ++ []) (tI nums) = false := by
    show (decide ((nums.map T.int).length = rules.length) && pzB [] (rules ++ []) rules (nums.map T.int)) = false
    rw [List.length_map, decide_eq_true hl, Bool.true_and]
    match rules, nums, hl, h0 with
    | r :: rs, x :: xs, _, _ =>
      refine pz_false (n := 0) (r := r) (y := .int x) rfl rfl ?_
      refine okAt_out ?_
      simp
      omega
    | [], _, _, h => exact absurd rfl h
    | _ :: _, [], hl, _ => simp at hl
  simp only [paperB, toI_tI, e4, Bool.and_false]
theorem inc_len' : ∀ {ns : List Int} {a m : Int}, a ≤ m → ns.Pairwise (· < ·) → (∀ r ∈ ns, a ≤ r ∧ r < m) → (ns.length : Int) ≤ m - a
  | [], a, m, h, _, _ => by
    simp
    omega
  | r :: ns, a, m, h, h1, h2 => by
    have h3 := h2 r List.mem_cons_self
    have h4 := List.pairwise_cons.mp h1
    have := inc_len' (ns := ns) (a := r + 1) (m := m) (by omega) h4.2 fun q hq => by
      have := h4.1 q hq
      have := (h2 q (List.mem_cons_of_mem _ hq)).2
      omega
    rw [List.length_cons]
    push_cast
    omega
theorem inc_len {ns : List Int} {many : Nat} (hi : Inc ns) (hr : InR many ns) : ns.length ≤ many := by
  have := inc_len' (a := 0) (m := (many : Int)) (by omega) hi hr
  omega
theorem r__law_bars : ∀ a ts tp k, P__law_bars ts tp k → x__law_bars (enT a k) (stT 12 a tp ts) := by
  rintro a ts tp k ⟨many, b, rfl, m1, m6, htp, hb, hk⟩
  have Mx' : Mx = 1099511627776 := rfl
  simp [x__law_bars]
  refine ⟨⟨by omega, by omega, by omega, by omega, by omega⟩, ?_⟩
  rw [rg_full]
  refine ⟨full many, 1, b, rfl, full_nodup many, by rw [full_len]; omega, by omega, by omega, htp, by omega, fun rules tp1 hi hsub hle ht1 => ?_⟩
  have hr : InR many rules := fun r h => full_mem.mp (hsub r h)
  have hle := hle (by rw [full_len]; omega)
  have h0 : rules ≠ [] := fun z => by
    subst z
    simp at hle
  have l6 : rules.length ≤ 6 := by
    have := inc_len hi hr
    omega
  simp
  refine ⟨many, [], rules, b + 12, rfl, m6, l6, hr, ht1, by omega, fun rows nums nothing tp2 hw w1 w2 hp n0 n1 ht2 => ?_⟩
  have hp0 := paper_ok (lo := []) hp hr hi h0 (fun r h => by simp at h) (fun r h => by simp at h)
  have w3 : ∀ x y z : T, atI [x, y, z] 0 = some x := fun _ _ _ => rfl
  have w4 : ∀ x y z : T, atI [x, y, z] 1 = some y := fun _ _ _ => rfl
  have w5 : ∀ x y z : T, atI [x, y, z] 2 = some z := fun _ _ _ => rfl
  have okp : (T.tup [tI rules, tI nums]).ok = true := by simp
  simp [w3, w4, w5]
  refine ⟨many, rows, _, rfl, okp, hw, ?_⟩
  rw [hp0]
  simp
  rw [for_eq]
  simp [w5]
  refine ⟨many, rows.length, rules, nums, nothing, b + 112, rfl, m6, w2, hp.1, by omega, l6, hr, ht2.mono (by omega), by omega, fun things tp3 t1 t2 t3 _ ht3 => ?_⟩
  simp
  refine loop_ov (fun n s => ∃ d6, s = ⟨[.fr (.adr a), .fr (.int many), .fr (tI rules), .fr (.lst [rowsT rows, .tup [tI rules, tI nums], .int nothing]), .fr (rowsT rows), .fr (.tup [tI rules, tI nums]), d6, .un, .un, .un, .un, .un], some (a, tp3)⟩) ⟨_, rfl⟩ ?_ ?_
  · rintro n x s hx ⟨d6, rfl⟩ N hN
    have okx := oks_at t1 hx
    have sx := t2 x (List.mem_of_getElem? hx)
    simp
    refine ⟨many, rows, x, rfl, okx, hw, ?_⟩
    simp
    refine ⟨many, rows, [], [], x, rfl, okx, sx, m6, by omega, hw, ?_⟩
    simp
    refine ⟨_, _, rfl, ?_⟩
    simp
    exact hN _ ⟨_, rfl⟩
  · rintro s ⟨d6, rfl⟩
    simp
    refine ⟨(rules.length : Int), b + 117, rfl, ht3.mono (by omega), by omega, by omega, fun place tp4 a4 b4 ht4 => ?_⟩
    have iP := atI_ints (ns := nums) (i := place) a4 (by have := hp.1; omega)
    have hq := List.getElem?_eq_getElem (l := nums) (i := place.toNat) (by have := hp.1; omega)
    have eq : nums.getD place.toNat 0 = nums[place.toNat]'(by have := hp.1; omega) := getD_at hq
    have hrq := List.getElem?_eq_getElem (l := rules) (i := place.toNat) (by omega)
    have hatb := hp.2 _ _ _ hrq hq
    rw [eq] at iP
    generalize nums[place.toNat]'(by have := hp.1; omega) = at' at iP hatb
    have p1 : atI [tI rules, tI nums] 1 = some (tI nums) := rfl
    simp [w4, iP, p1]
    have st0 : ∀ (d9 d10 d11 : TL.Slot), True := fun _ _ _ => trivial
    refine for_ov (ts := rgT 0 many) (fun n s => ∃ d6 d9 d10 d11, s = ⟨[.fr (.adr a), .fr (.int many), .fr (tI rules), .fr (.lst [rowsT rows, .tup [tI rules, tI nums], .int nothing]), .fr (rowsT rows), .fr (.tup [tI rules, tI nums]), d6, .fr (.int place), .fr (.int at'), d9, d10, d11], some (a, tp4)⟩) ?_ ⟨_, _, _, _, rfl⟩ ?_ ?_
    · intro k h
      simp
      exact ⟨by omega, h⟩
    · rintro n x s hx ⟨d6, d9, d10, d11, rfl⟩ N hN
      obtain ⟨rfl, hn⟩ := rgT_get hx
      simp
      refine for_ov (ts := [T.int 1, T.int 0, T.int (-1), T.int 1000000, T.int (-1000000)]) (fun m s => ∃ d10 d11, s = ⟨[.fr (.adr a), .fr (.int many), .fr (tI rules), .fr (.lst [rowsT rows, .tup [tI rules, tI nums], .int nothing]), .fr (rowsT rows), .fr (.tup [tI rules, tI nums]), d6, .fr (.int place), .fr (.int at'), .fr (.int n), d10, d11], some (a, tp4)⟩) ?_ ⟨_, _, rfl⟩ ?_ ?_
      · intro k h
        simp
        exact ⟨by rw [sizeLine_eq]; omega, h⟩
      · rintro m x s hx ⟨d10, d11, rfl⟩ N2 hN2
        obtain ⟨v, rfl⟩ : ∃ v : Int, x = .int v := by
          have := List.mem_of_getElem? hx
          simp at this
          rcases this with h | h | h | h | h <;> exact ⟨_, h⟩
        simp
        refine ⟨many, rows, at', n, v, rfl, by omega, hw, m6, hatb.1, hatb.2.1, by omega, by omega, fun rows' hw' hl' => ?_⟩
        simp
        refine ⟨many, rows', _, rfl, okp, hw', ?_⟩
        simp
        refine ⟨many, rows', [], [], _, rfl, okp, by simp [small2, smallT]; have := hp.1; omega, m6, by omega, hw', ?_⟩
        simp
        refine ⟨_, _, rfl, ?_⟩
        simp
        exact hN2 _ ⟨_, _, rfl⟩
      · rintro s ⟨d10, d11, rfl⟩
        simp
        exact hN _ ⟨_, _, _, _, rfl⟩
    · rintro s ⟨d6, d9, d10, d11, rfl⟩
      simp
      refine ⟨many, [], _, rfl, okp, fun _ h => by simp at h, ?_⟩
      rw [paper_none hp.1 h0]
      simp
      refine ⟨many, rows, _, rfl, okp, hw, ?_⟩
      rw [hp0]
      simp
      exact hk tp4 (ht4.mono (by omega))
end Pf

namespace TL
open PySem PySem.Spec PyProof.Rows L2
theorem cut_map {α β : Type} (f : α → β) (xs : List α) (lo hi : Option Int) : cut (xs.map f) lo hi = (cut xs lo hi).map f := by
  unfold cut
  rw [List.length_map, List.map_take, List.map_drop]
theorem cut_to {α : Type} (xs : List α) {i : Int} (h : 0 ≤ i) : cut xs none (some i) = xs.take i.toNat := by
  obtain ⟨n, rfl⟩ : ∃ n : Nat, i = n := ⟨i.toNat, by omega⟩
  unfold cut
  rw [HT.sIx_none, List.drop_zero, Nat.sub_zero, HT.sIx_nat, Int.toNat_natCast]
  by_cases c : n ≤ xs.length
  · rw [Nat.min_eq_left c]
  · rw [Nat.min_eq_right (by omega), List.take_length, List.take_of_length_le (by omega)]
theorem nodup_len : ∀ {l m : List Int}, l.Nodup → (∀ x ∈ l, x ∈ m) → l.length ≤ m.length
  | [], _, _, _ => Nat.zero_le _
  | x :: l, m, h, hs => by
    have h1 := List.nodup_cons.mp h
    have hx := hs x List.mem_cons_self
    have := nodup_len (l := l) (m := m.erase x) h1.2 fun y hy => (List.mem_erase_of_ne (fun z => h1.1 (by rw [← z]; exact hy))).mpr (hs y (List.mem_cons_of_mem _ hy))
    rw [List.length_erase_of_mem hx] at this
    have : 0 < m.length := List.length_pos_of_mem hx
    rw [List.length_cons]
    omega
end TL
namespace Pf
open PySem PySem.Spec PyProof.Rows L2 TL
theorem seq_start {e : XE} {rest : XS} {D : Dx} {st : S} {i : Nat} (h : e st fun t s1 => i < s1.ds.length ∧ rest D (s1.put i (.fr t))) : xSeq (xSet i e) rest D st := h
theorem seq_lc {e : XN} {rest : XS} {D : Dx} {st : S} {i : Nat} (h : e st fun c s1 => i < s1.ds.length ∧ rest D (s1.put i (.ow c))) : xSeq (xSetW i e) rest D st := h
theorem at_st {x : XS} {D : Dx} {st st' : S} (e : st = st') (h : x D st') : x D st := e ▸ h
theorem r__law_word : ∀ ts k, P__law_word ts k → x__law_word (enP k) (stP 7 ts) := by
  rintro ts k ⟨many, rows, up, lo, t, w, rfl, ok, hw, lu, hm, hc, hk⟩
  have i0 : ∀ x y : T, atI [x, y] 0 = some x := fun _ _ => rfl
  have i1 : ∀ x y : T, atI [x, y] 1 = some y := fun _ _ => rfl
  have fin : ∀ z : Str, z = w → k (.fr (.bl (decide (z = w)))) := fun z h => by
    rw [decide_eq_true h]
    exact hk
  have is1 : ∀ z : Str, isi "str" (.str z) = some true := fun z => isi_str rfl
  simp [x__law_word]
  refine ⟨many, rows, up, lo, t, rfl, ok, hw, lu, hm, fun h => ?_, fun h1 h2 => ?_, fun h1 h2 => ?_⟩
  · have hwe : w = "empty" := by
      rcases hc with ⟨_, e⟩ | ⟨e, _⟩
      · exact e
      · exact absurd h e
    simp [i0, i1, is1]
    have := fin "empty" hwe.symm
    simpa using this
  · have hwe : w = "common" := by
      rcases hc with ⟨e, _⟩ | ⟨_, _, e⟩
      · exact absurd e h1
      · exact e
    simp [i0, i1, is1]
    have := fin "common" hwe.symm
    simpa using this
  · rcases hc with ⟨e, _⟩ | ⟨_, ⟨r, x, y⟩, _⟩
    · exact absurd e h1
    · exact absurd y (h2 r x)
def x_fh (T : XS) : XS := xSeq (xSet 2 (xTup (xNil)))
  (xSeq (xIfS (xB (xOp gtR (xVar 1) (xC (.int 1)))) (xSet 2 (xSl slR (xCallT P__law_some (xCons (xVar 0) (xCons (xFz (xLstRg (xRg1 (xVar 1)))) (xCons (xC (.int 0)) (xNil))))) (xNo) (xPart (xOp subR (xVar 1) (xC (.int 1)))))) (xNext))
  (xSeq (xSetW 3 (xLc (xiR1 (xCons (xVar 1) (xNil))) 16 (xB (xOp (inR true) (xVar 16) (xVar 2))) (xVar 16)))
  (xFreeze 3 (xSeq (xSet 4 (xCallT P__law_some (xCons (xVar 0) (xCons (xVar 3) (xCons (xC (.int 1)) (xNil))))))
  (xSeq (xSet 5 (xCallT P__law_some (xCons (xVar 0) (xCons (xFz (xCN listR (xCons (xVar 4) xNil))) (xCons (xC (.int 1)) (xNil))))))
  (xSeq (xSet 6 (xCallT P__law_world (xCons (xVar 0) (xCons (xVar 1) (xCons (xVar 2) (xCons (xVar 4) (xNil)))))))
  (xSeq (xSet 7 (xOp ixR (xVar 6) (xC (.int 0))))
  (xSeq (xSet 8 (xOp ixR (xVar 6) (xC (.int 1))))
  (xSeq (xIfS (xB (xOp (isX true) (xCall P_is_row_fence (xCons (xVar 1) (xCons (xVar 7) (xCons (xVar 2) (xCons (xVar 5) (xCons (xVar 8) (xNil))))))) (xC (.bl true)))) (xRet (xC (.bl false))) (xNext))
  (xSeq (xSetW 9 (xCallTN P__law_spoilt (xCons (xVar 0) (xCons (xVar 1) (xCons (xCB lenR (xCons (xVar 7) xNil)) (xCons (xVar 8) (xCons (xOp ixR (xVar 6) (xC (.int 2))) (xNil))))))))
  (xSeq (xIfS (xB (xOp gtR (xCB lenR (xCons (xVar 2) xNil)) (xC (.int 0)))) (xSeq (xSet 10 (xOp ixR (xVar 2) (xCallT P__law_draw (xCons (xVar 0) (xCons (xCB lenR (xCons (xVar 2) xNil)) (xNil))))))
  (xSeq (xSet 11 (xFz (xCN sortUR (xCons (xOp addR (xFz (xCN listR (xCons (xVar 4) xNil))) (xFz (xLst (xCons (xVar 10) (xNil))))) xNil))))
  (xSeq (xSet 12 (xIdx (xVar 11) (xVar 10)))
  (xDrop (xApp 9 (xTup (xCons (xCB tupR (xCons (xVar 11) xNil)) (xCons (xOp addR (xOp addR (xSl slR (xOp ixR (xVar 8) (xC (.int 1))) (xNo) (xPart (xVar 12))) (xTup (xCons (xOp ixR (xOp ixR (xVar 8) (xC (.int 1))) (xC (.int 0))) (xNil)))) (xSl slR (xOp ixR (xVar 8) (xC (.int 1))) (xPart (xVar 12)) (xNo))) (xNil))))))))) (xNext))
  T)))))))))))
def x_ft : XS := (xFreeze 9 (xSeq (xFor (xiL (xVar 9)) (xgN 13) (xIfS (xNot (xTru (xCall P__law_said (xCons (xCall P_is_row_fence (xCons (xVar 1) (xCons (xVar 7) (xCons (xVar 2) (xCons (xVar 5) (xCons (xVar 13) (xNil))))))) (xCons (xCall P__law_paper (xCons (xVar 1) (xCons (xVar 7) (xCons (xVar 2) (xCons (xVar 5) (xCons (xVar 13) (xNil))))))) (xNil)))))) (xRet (xC (.bl false))) (xNext)))
  (xSeq (xSet 14 (xCallT P__law_draw (xCons (xVar 0) (xCons (xCB lenR (xCons (xVar 4) xNil)) (xNil)))))
  (xSeq (xSet 15 (xOp ixR (xOp ixR (xVar 8) (xC (.int 1))) (xVar 14)))
  (xSeq (xFor (xiR1 (xCons (xVar 1) (xNil))) (xgN 16) (xFor (xiL (xFz (xLst (xCons (xC (.int 1)) (xCons (xC (.int 0)) (xCons (xUn negR (xC (.int 1))) (xCons (xC (.int 1000000)) (xNil)))))))) (xgN 17) (xSeq (xSet 18 (xCall P__law_turned (xCons (xVar 7) (xCons (xVar 15) (xCons (xVar 16) (xCons (xVar 17) (xNil)))))))
  (xIfS (xNot (xTru (xCall P__law_said (xCons (xCall P_is_row_fence (xCons (xVar 1) (xCons (xVar 18) (xCons (xVar 2) (xCons (xVar 5) (xCons (xVar 8) (xNil))))))) (xCons (xCall P__law_paper (xCons (xVar 1) (xCons (xVar 18) (xCons (xVar 2) (xCons (xVar 5) (xCons (xVar 8) (xNil))))))) (xNil)))))) (xRet (xC (.bl false))) (xNext)))))
  (xSeq (xFor (xiL (xFz (xLst (xCons (xCallT P__law_some (xCons (xVar 0) (xCons (xVar 3) (xCons (xC (.int 1)) (xNil))))) (xCons (xCB tupR (xCons (xVar 3) xNil)) (xCons (xTup (xCons (xOp ixR (xVar 3) (xCallT P__law_draw (xCons (xVar 0) (xCons (xCB lenR (xCons (xVar 3) xNil)) (xNil))))) (xNil))) (xNil))))))) (xgN 19) (xIfS (xNot (xTru (xCall P__law_said (xCons (xCall P_is_row_fence (xCons (xVar 1) (xCons (xVar 7) (xCons (xVar 2) (xCons (xVar 19) (xCons (xVar 8) (xNil))))))) (xCons (xCall P__law_paper (xCons (xVar 1) (xCons (xVar 7) (xCons (xVar 2) (xCons (xVar 19) (xCons (xVar 8) (xNil))))))) (xNil)))))) (xRet (xC (.bl false))) (xNext)))
  (xSeq (xSet 20 (xSl slR (xVar 2) (xNo) (xPart (xCallT P__law_draw (xCons (xVar 0) (xCons (xOp addR (xCB lenR (xCons (xVar 2) xNil)) (xC (.int 1))) (xNil)))))))
  (xSeq (xIfS (xNot (xTru (xCall P__law_said (xCons (xCall P_is_row_fence (xCons (xVar 1) (xCons (xVar 7) (xCons (xVar 20) (xCons (xVar 5) (xCons (xVar 8) (xNil))))))) (xCons (xCall P__law_paper (xCons (xVar 1) (xCons (xVar 7) (xCons (xVar 20) (xCons (xVar 5) (xCons (xVar 8) (xNil))))))) (xNil)))))) (xRet (xC (.bl false))) (xNext))
  (xSeq (xSet 13 (xOp ixR (xFz (xLst (xCons (xVar 8) (xCons (xC .non) (xCons (xTup (xCons (xVar 4) (xCons (xTup (xNil)) (xNil)))) (xCons (xOp ixR (xVar 9) (xCallT P__law_draw (xCons (xVar 0) (xCons (xCB lenR (xCons (xVar 9) xNil)) (xNil))))) (xNil))))))) (xCallT P__law_draw (xCons (xVar 0) (xCons (xC (.int 4)) (xNil))))))
  (xSeq (xIfS (xOr (xNot (xTru (xCall P__law_word (xCons (xVar 1) (xCons (xVar 7) (xCons (xVar 2) (xCons (xTup (xNil)) (xCons (xVar 13) (xCons (xC (.str "empty")) (xNil)))))))))) (xNot (xTru (xCall P__law_word (xCons (xVar 1) (xCons (xVar 7) (xCons (xTup (xNil)) (xCons (xTup (xNil)) (xCons (xVar 13) (xCons (xC (.str "empty")) (xNil))))))))))) (xRet (xC (.bl false))) (xNext))
  (xSeq (xSet 21 (xCB tupR (xCons (xFz (xCN sortUR (xCons (xOp addR (xFz (xCN listR (xCons (xVar 2) xNil))) (xFz (xLst (xCons (xOp ixR (xVar 5) (xCallT P__law_draw (xCons (xVar 0) (xCons (xCB lenR (xCons (xVar 5) xNil)) (xNil))))) (xNil))))) xNil))) xNil)))
  (xSeq (xIfS (xOr (xNot (xTru (xCall P__law_word (xCons (xVar 1) (xCons (xVar 7) (xCons (xVar 21) (xCons (xVar 5) (xCons (xVar 13) (xCons (xC (.str "common")) (xNil)))))))))) (xNot (xTru (xCall P__law_word (xCons (xVar 1) (xCons (xVar 7) (xCons (xVar 5) (xCons (xVar 5) (xCons (xVar 8) (xCons (xC (.str "common")) (xNil))))))))))) (xRet (xC (.bl false))) (xNext))
  (xRet (xOp (isX false) (xCall P_is_row_fence (xCons (xVar 1) (xCons (xVar 7) (xCons (xVar 2) (xCons (xVar 5) (xCons (xVar 8) (xNil))))))) (xC (.bl true))))))))))))))))
theorem fences_is : x__law_fences = x_fh x_ft := rfl
structure FW (many : Nat) (b : Nat) (a : Addr) (up pool rules lower nums : List Int) (rows : List (List Int)) (nothing : Int) (things : List T) (tp : List T) : Prop where
  ul : up.length < many
  unr : InR many up
  pm : ∀ r, r ∈ pool ↔ (0 ≤ r ∧ r < many) ∧ r ∉ up
  pnd : pool.Nodup
  pl6 : pool.length ≤ 6
  pl1 : 1 ≤ pool.length
  rr : InR many rules
  ri : Inc rules
  rl : 1 ≤ rules.length
  r6 : rules.length ≤ 6
  rp : ∀ r ∈ rules, r ∉ up
  lsub : ∀ r ∈ lower, r ∈ rules
  l0 : lower ≠ []
  l6 : lower.length ≤ 6
  hw : Wide many rows
  w1 : 7 ≤ rows.length
  w2 : rows.length ≤ 200
  hp : PaperOk many rows up rules nums
  tk : TapeOk (b + 145) tp
  t1 : T.oks things = true
  t2 : ∀ t ∈ things, small2 t
  t3 : things.length ≤ 61
  t4 : 1 ≤ things.length
def FS (many : Nat) (a : Addr) (up pool rules lower nums : List Int) (rows : List (List Int)) (nothing : Int) (things : List T) (tp : List T) (d10 d11 d12 : TL.Slot) : S :=
  ⟨[.fr (.adr a), .fr (.int many), .fr (tI up), .fr (.lst (pool.map T.int)), .fr (tI rules), .fr (tI lower), .fr (.lst [rowsT rows, .tup [tI rules, tI nums], .int nothing]), .fr (rowsT rows), .fr (.tup [tI rules, tI nums]), .ow (.lst things), d10, d11, d12, .un, .un, .un, .un, .un, .un, .un, .un, .un], some (a, tp)⟩
theorem r_fh (Tl : XS) : ∀ (a : Addr) ts tp k (many : Nat) (b : Nat), ts = [T.int many] → 1 ≤ many → many ≤ 6 → TapeOk b tp → b + 200 ≤ Mx →
    (∀ up pool rules lower nums rows nothing things tp' d10 d11 d12, FW many b a up pool rules lower nums rows nothing things tp' → Tl (enT a k) (FS many a up pool rules lower nums rows nothing things tp' d10 d11 d12)) → x_fh Tl (enT a k) (stT 22 a tp ts) := by
  rintro a ts tp k many b rfl m1 m6 htp hb hT
  have Mx' : Mx = 1099511627776 := rfl
  unfold x_fh
  refine seq_start ?_
  refine ⟨sz1000' (n := 0) (by decide), by simp, ?_⟩
  refine at_st (st' := S.mk [.fr (.adr a), .fr (.int many), .fr (tI []), .un, .un, .un, .un, .un, .un, .un, .un, .un, .un, .un, .un, .un, .un, .un, .un, .un, .un, .un] (some (a, tp))) rfl ?_
  refine seq_gen (fun s => ∃ (up : List Int) (tp' : List T), TapeOk (b + 12) tp' ∧ Inc up ∧ (∀ r ∈ up, r ∈ full many) ∧ up.length < many ∧ s = ⟨[.fr (.adr a), .fr (.int many), .fr (tI up), .un, .un, .un, .un, .un, .un, .un, .un, .un, .un, .un, .un, .un, .un, .un, .un, .un, .un, .un], some (a, tp')⟩) (fun N hN => ?_) ?_
  · rcases ltge 1 (many : Int) with c | c
    · simp [c, Int.not_le.mpr c]
      refine ⟨⟨by omega, by omega, by omega, by omega, by omega⟩, ?_⟩
      rw [rg_full]
      refine ⟨full many, 0, b, rfl, full_nodup many, by rw [full_len]; omega, by omega, by omega, htp, by omega, fun ns tp1 hi hsub _ ht1 => ?_⟩
      simp
      rw [cut_map, cut_to ns (by omega)]
      refine hN _ ⟨ns.take ((many : Int) - 1).toNat, tp1, ht1, hi.sublist (List.take_sublist _ _), fun r hr => hsub r (List.mem_of_mem_take hr), ?_, rfl⟩
      rw [List.length_take]
      omega
    · simp [c, Int.not_lt.mpr c]
      exact hN _ ⟨[], tp, htp.mono (by omega), List.Pairwise.nil, fun r h => by simp at h, by simp; omega, rfl⟩
  · rintro s ⟨up, tp1, ht1, ui, us, ul, rfl⟩
    have unr : InR many up := fun r h => full_mem.mp (us r h)
    refine seq_lc ?_
    refine lc_map (fun (n : Nat) => T.int (n : Int)) (fun t => (toI1 t).toNat) (fun n => by simp [toI1]) (List.range many) (fun n => decide ((n : Int) ∉ up)) (fun n => T.int (n : Int)) ?_ (by simp) (by simp) (sz1000 (by simp; omega)) ?_ ?_ ?_
    · intro k h
      simp
      rw [← rg_nat] at h
      exact ⟨by omega, h⟩
    · intro r hr'
      simp
    · intro r hr' _
      simp
    generalize hF : ((List.range many).filter fun (n : Nat) => decide ((n : Int) ∉ up)).map (fun (n : Nat) => (n : Int)) = pool
    have eF : ((List.range many).filter fun (n : Nat) => decide ((n : Int) ∉ up)).map (fun (n : Nat) => T.int (n : Int)) = pool.map T.int := by
      rw [← hF, List.map_map]
      rfl
    have pm : ∀ r, r ∈ pool ↔ (0 ≤ r ∧ r < many) ∧ r ∉ up := fun r => by
      rw [← hF, List.mem_map]
      constructor
      · rintro ⟨n, h, rfl⟩
        rw [List.mem_filter, List.mem_range] at h
        exact ⟨by omega, of_decide_eq_true h.2⟩
      · rintro ⟨⟨h1, h2⟩, h3⟩
        have e : ((r.toNat : Nat) : Int) = r := by omega
        exact ⟨r.toNat, List.mem_filter.mpr ⟨List.mem_range.mpr (by omega), decide_eq_true (by rw [e]; exact h3)⟩, e⟩
    have pnd : pool.Nodup := by
      rw [← hF]
      refine List.pairwise_map.mpr ?_
      refine ((List.pairwise_lt_range (n := many)).sublist List.filter_sublist).imp fun {x y} h => ?_
      show (x : Int) ≠ (y : Int)
      omega
    have pl6 : pool.length ≤ 6 := by
      have := nodup_len pnd fun r hr => (full_mem (m := many)).mpr ((pm r).mp hr).1
      rw [full_len] at this
      omega
    have pl1 : 1 ≤ pool.length := by
      rcases Nat.eq_zero_or_pos pool.length with z | z
      · have e : pool = [] := List.length_eq_zero_iff.mp z
        have := nodup_len (full_nodup many) (m := up) fun r hr => by
          by_cases c : r ∈ up
          · exact c
          · have := (pm r).mpr ⟨full_mem.mp hr, c⟩
            rw [e] at this
            simp at this
        rw [full_len] at this
        omega
      · exact z
    rw [eF]
    refine ⟨by simp, ?_⟩
    refine ⟨pool.map T.int, by simp, ?_⟩
    simp
    refine ⟨pool, 1, b + 12, rfl, pnd, pl6, by omega, by omega, ht1, by omega, fun rules tp2 ri rsub rl ht2 => ?_⟩
    have rl := rl (by omega)
    have rr : InR many rules := fun r h => ((pm r).mp (rsub r h)).1
    have r6 : rules.length ≤ 6 := by
      have := inc_len ri rr
      omega
    have rnd : rules.Nodup := ri.imp (fun {a b} h => by show a ≠ b; omega)
    simp
    refine ⟨rules, 1, b + 24, rfl, rnd, r6, by omega, by omega, ht2, by omega, fun lower tp3 li lsub ll ht3 => ?_⟩
    have ll := ll (by omega)
    have l0 : lower ≠ [] := fun z => by
      subst z
      simp at ll
    have ld : ∀ r ∈ lower, r ∉ up := fun r h => ((pm r).mp (rsub r (lsub r h))).2
    simp
    refine ⟨many, up, rules, b + 36, rfl, m6, r6, rr, ht3, by omega, fun rows nums nothing tp4 hw w1 w2 hp n0 n1 ht4 => ?_⟩
    have r0 : rules ≠ [] := fun z => by
      subst z
      simp at rl
    have hp0 : paperB many rows up lower (.tup [tI rules, tI nums]) = true := paper_ok hp rr ri r0 (fun r h1 h2 => ((pm r).mp (rsub r h2)).2 h1) lsub
    have w3 : ∀ x y z : T, atI [x, y, z] 0 = some x := fun _ _ _ => rfl
    have w4 : ∀ x y z : T, atI [x, y, z] 1 = some y := fun _ _ _ => rfl
    have w5 : ∀ x y z : T, atI [x, y, z] 2 = some z := fun _ _ _ => rfl
    have okp : (T.tup [tI rules, tI nums]).ok = true := by simp
    have u6 : up.length ≤ 1000 := by omega
    simp [w3, w4, w5]
    refine ⟨many, rows, up, lower, _, rfl, okp, hw, u6, m6, l0, ld, ?_⟩
    rw [hp0]
    simp [w5]
    refine ⟨many, rows.length, rules, nums, nothing, b + 136, rfl, m6, w2, hp.1, by omega, r6, rr, ht4.mono (by omega), by omega, fun things tp5 t1 t2 t3 t4 ht5 => ?_⟩
    simp
    have hl6 : lower.length ≤ 6 := by
      have := nodup_len (li.imp (fun {a b} h => by show a ≠ b; omega)) lsub
      omega
    by_cases cu : up = []
    · subst cu
      simp
      have := hT [] pool rules lower nums rows nothing things tp5 .un .un .un ⟨by simpa using ul, unr, pm, pnd, pl6, pl1, rr, ri, by omega, r6, fun r h => ((pm r).mp (rsub r h)).2, lsub, l0, hl6, hw, w1, w2, hp, ht5.mono (by omega), t1, t2, by omega, t4⟩
      simpa [FS] using this
    · have lu0 : 0 < up.length := List.length_pos_iff.mpr cu
      simp [cu, lu0]
      refine ⟨(up.length : Int), b + 141, rfl, ht5.mono (by omega), by omega, by omega, fun q3 tp6 a3 b3 ht6 => ?_⟩
      have iF := atI_ints (ns := up) (i := q3) a3 (by omega)
      generalize up.getD q3.toNat 0 = rule at iF
      have p1 : atI [tI rules, tI nums] 1 = some (tI nums) := rfl
      have hnl := hp.1
      have i0 := atI_ints (ns := nums) (i := 0) (by omega) (by omega)
      generalize nums.getD (0 : Int).toNat 0 = n0' at i0
      have hs : ∀ o, sortUR [.lst (rules.map T.int ++ [T.int rule])] o ↔ o = .lst ((srt (rules ++ [rule])).map T.int) := fun o => by
        rw [snoc_int, sortUR_l]
      have cl : ∀ (ns : List Int) (lo hi : Option Int), (cut (ns.map T.int) lo hi).length ≤ ns.length := fun ns lo hi => by
        have := (cut_sub (ns.map T.int) lo hi).length_le
        rwa [List.length_map] at this
      have cn5 : ∀ lo hi, (cut (nums.map T.int) lo hi).length + 1 ≤ 16777216 := fun lo hi => by
        have h1 := cl nums lo hi
        omega
      have cn6 : ∀ lo hi lo' hi', (cut (nums.map T.int) lo hi).length + 1 + (cut (nums.map T.int) lo' hi').length ≤ 16777216 := fun lo hi lo' hi' => by
        have h1 := cl nums lo hi
        have h2 := cl nums lo' hi'
        omega
      have cn7 : ∀ lo hi lo' hi', (cut (nums.map T.int) lo hi).length + ((cut (nums.map T.int) lo' hi').length + 1) ≤ 1000 := fun lo hi lo' hi' => by
        have h1 := cl nums lo hi
        have h2 := cl nums lo' hi'
        omega
      have wlen : (srt (rules ++ [rule])).length = rules.length + 1 := by rw [(srt_perm _).length_eq, List.length_append]; rfl
      simp [iF, hs, p1, i0, cn5, cn6, sizeLine_eq]
      refine ⟨by omega, (srt_perm _).mem_iff.mpr (by simp), by omega, ?_⟩
      have := hT up pool rules lower nums rows nothing (things ++ [.tup [.tup ((srt (rules ++ [rule])).map T.int), .tup (cut (nums.map T.int) none (some ((srt (rules ++ [rule])).idxOf rule : Nat)) ++ T.int n0' :: cut (nums.map T.int) (some ((srt (rules ++ [rule])).idxOf rule : Nat)) none)]]) tp6 (.fr (.int rule)) (.fr (.lst ((srt (rules ++ [rule])).map T.int))) (.fr (.int ((srt (rules ++ [rule])).idxOf rule : Nat)))
        ⟨ul, unr, pm, pnd, pl6, pl1, rr, ri, by omega, r6, fun r h => ((pm r).mp (rsub r h)).2, lsub, l0, hl6, hw, w1, w2, hp, ht6.mono (by omega), by simp [t1], fun t ht => (List.mem_append.mp ht).elim (t2 t) fun q => by
          rw [List.mem_singleton.mp q]
          simp [small2, smallT, cn7]
          omega, by rw [List.length_append]; simp; omega, by rw [List.length_append]; omega⟩
      simpa [FS] using this
end Pf

namespace Pf
open PySem PySem.Spec PyProof.Rows L2 TL
theorem r_ft {many b : Nat} {a : Addr} {up pool rules lower nums : List Int} {rows : List (List Int)} {nothing : Int} {things tp : List T} {d10 d11 d12 : TL.Slot} {k : Rt → List T → Prop} (m1 : 1 ≤ many) (m6 : many ≤ 6) (hb : b + 200 ≤ Mx)
    (w : FW many b a up pool rules lower nums rows nothing things tp) (hk : ∀ tp', TapeOk (b + 200) tp' → k (.fr (.bl true)) tp') : x_ft (enT a k) (FS many a up pool rules lower nums rows nothing things tp d10 d11 d12) := by
  obtain ⟨ul, unr, pm, pnd, pl6, pl1, rr, ri, rl, r6, rp, lsub, l0, l6, hw, w1, w2, hp, tk, t1, t2, t3, t4⟩ := w
  have Mx' : Mx = 1099511627776 := rfl
  have r0 : rules ≠ [] := fun z => by
    subst z
    simp at rl
  have ld : ∀ r ∈ lower, r ∉ up := fun r h => rp r (lsub r h)
  have hp0 : paperB many rows up lower (.tup [tI rules, tI nums]) = true := paper_ok hp rr ri r0 (fun r h1 h2 => rp r h2 h1) lsub
  have p1 : atI [tI rules, tI nums] 1 = some (tI nums) := rfl
  have okp : (T.tup [tI rules, tI nums]).ok = true := by simp
  have hnl := hp.1
  have smp : small2 (.tup [tI rules, tI nums]) := by
    simp [small2, smallT]
    omega
  have u6 : up.length ≤ 1000 := by omega
  have rw1 : rows.length ≤ 1000 := by omega
  simp only [x_ft, FS]
  refine ⟨things, rfl, ?_⟩
  simp
  refine for_ov (ts := things) (fun n s => ∃ d13, s = ⟨[.fr (.adr a), .fr (.int many), .fr (tI up), .fr (.lst (pool.map T.int)), .fr (tI rules), .fr (tI lower), .fr (.lst [rowsT rows, .tup [tI rules, tI nums], .int nothing]), .fr (rowsT rows), .fr (.tup [tI rules, tI nums]), .fr (.lst things), d10, d11, d12, d13, .un, .un, .un, .un, .un, .un, .un, .un], some (a, tp)⟩) ?_ ⟨_, rfl⟩ ?_ ?_
  · intro k h
    simp
    exact h
  · rintro n x s hx ⟨d13, rfl⟩ N hN
    have okx := oks_at t1 hx
    have sx := t2 x (List.mem_of_getElem? hx)
    simp
    refine ⟨many, rows, up, lower, x, rfl, okx, hw, u6, m6, l0, ld, ?_⟩
    simp
    refine ⟨many, rows, up, lower, x, rfl, okx, sx, m6, rw1, hw, ?_⟩
    simp
    refine ⟨_, _, rfl, ?_⟩
    simp
    exact hN _ ⟨_, rfl⟩
  · rintro s ⟨d13, rfl⟩
    simp
    refine ⟨(rules.length : Int), b + 145, rfl, tk, by omega, by omega, fun place tp4 a4 b4 ht4 => ?_⟩
    have iP := atI_ints (ns := nums) (i := place) a4 (by omega)
    have hq := List.getElem?_eq_getElem (l := nums) (i := place.toNat) (by omega)
    have eq : nums.getD place.toNat 0 = nums[place.toNat]'(by omega) := getD_at hq
    have hrq := List.getElem?_eq_getElem (l := rules) (i := place.toNat) (by omega)
    have hatb := hp.2 _ _ _ hrq hq
    rw [eq] at iP
    generalize nums[place.toNat]'(by omega) = at' at iP hatb
    simp [iP, p1]
    refine for_ov (ts := rgT 0 many) (fun n s => ∃ d16 d17 d18, s = ⟨[.fr (.adr a), .fr (.int many), .fr (tI up), .fr (.lst (pool.map T.int)), .fr (tI rules), .fr (tI lower), .fr (.lst [rowsT rows, .tup [tI rules, tI nums], .int nothing]), .fr (rowsT rows), .fr (.tup [tI rules, tI nums]), .fr (.lst things), d10, d11, d12, d13, .fr (.int place), .fr (.int at'), d16, d17, d18, .un, .un, .un], some (a, tp4)⟩) ?_ ⟨_, _, _, rfl⟩ ?_ ?_
    · intro k h
      simp
      exact ⟨by omega, h⟩
    · rintro n x s hx ⟨d16, d17, d18, rfl⟩ N hN
      obtain ⟨rfl, hn⟩ := rgT_get hx
      simp
      refine for_ov (ts := [T.int 1, T.int 0, T.int (-1), T.int 1000000]) (fun m s => ∃ d17 d18, s = ⟨[.fr (.adr a), .fr (.int many), .fr (tI up), .fr (.lst (pool.map T.int)), .fr (tI rules), .fr (tI lower), .fr (.lst [rowsT rows, .tup [tI rules, tI nums], .int nothing]), .fr (rowsT rows), .fr (.tup [tI rules, tI nums]), .fr (.lst things), d10, d11, d12, d13, .fr (.int place), .fr (.int at'), .fr (.int n), d17, d18, .un, .un, .un], some (a, tp4)⟩) ?_ ⟨_, _, rfl⟩ ?_ ?_
      · intro k h
        simp
        exact ⟨by rw [sizeLine_eq]; omega, h⟩
      · rintro m x s hx ⟨d17, d18, rfl⟩ N2 hN2
        obtain ⟨v, rfl⟩ : ∃ v : Int, x = .int v := by
          have := List.mem_of_getElem? hx
          simp at this
          rcases this with h | h | h | h <;> exact ⟨_, h⟩
        simp
        refine ⟨many, rows, at', n, v, rfl, rw1, hw, m6, hatb.1, hatb.2.1, by omega, by omega, fun rows' hw' hl' => ?_⟩
        simp
        refine ⟨many, rows', up, lower, _, rfl, okp, hw', u6, m6, l0, ld, ?_⟩
        simp
        refine ⟨many, rows', up, lower, _, rfl, okp, smp, m6, by omega, hw', ?_⟩
        simp
        refine ⟨_, _, rfl, ?_⟩
        simp
        exact hN2 _ ⟨_, _, rfl⟩
      · rintro s ⟨d17, d18, rfl⟩
        simp
        exact hN _ ⟨_, _, _, rfl⟩
    · rintro s ⟨d16, d17, d18, rfl⟩
      simp
      rw [for_eq]
      simp
      refine ⟨pool, 1, b + 146, rfl, pnd, pl6, by omega, by omega, ht4.mono (by omega), by omega, fun ns tp5 ni nsub nl ht5 => ?_⟩
      simp
      refine ⟨(pool.length : Int), b + 158, rfl, ht5.mono (by omega), by omega, by omega, fun q6 tp6 a6 b6 ht6 => ?_⟩
      have iQ := atI_ints (ns := pool) (i := q6) a6 (by omega)
      have iQm : pool.getD q6.toNat 0 ∈ pool := by
        rw [List.getD_eq_getElem?_getD, List.getElem?_eq_getElem (by omega)]
        exact List.getElem_mem _
      generalize pool.getD q6.toNat 0 = pq at iQ iQm
      simp [iQ]
      have nl := nl (by omega)
      refine ⟨by rw [sizeLine_eq]; omega, by rw [sizeLine_eq]; omega, ?_⟩
      refine loop_ov (fun n s => ∃ d19, s = ⟨[.fr (.adr a), .fr (.int many), .fr (tI up), .fr (.lst (pool.map T.int)), .fr (tI rules), .fr (tI lower), .fr (.lst [rowsT rows, .tup [tI rules, tI nums], .int nothing]), .fr (rowsT rows), .fr (.tup [tI rules, tI nums]), .fr (.lst things), d10, d11, d12, d13, .fr (.int place), .fr (.int at'), d16, d17, d18, d19, .un, .un], some (a, tp6)⟩) ⟨_, rfl⟩ ?_ ?_
      · rintro n x s hx ⟨d19, rfl⟩ N hN
        obtain ⟨ls, rfl, h1, h2⟩ : ∃ ls : List Int, x = tI ls ∧ ls ≠ [] ∧ ∀ r ∈ ls, r ∉ up := by
          have := List.mem_of_getElem? hx
          simp at this
          rcases this with h | h | h
          · exact ⟨ns, h, fun z => by rw [z] at nl; simp at nl, fun r hr => ((pm r).mp (nsub r hr)).2⟩
          · exact ⟨pool, h, fun z => by rw [z] at pl1; simp at pl1, fun r hr => ((pm r).mp hr).2⟩
          · exact ⟨[pq], h, by simp, fun r hr => by
              rw [List.mem_singleton.mp hr]
              exact ((pm pq).mp iQm).2⟩
        simp
        refine ⟨many, rows, up, ls, _, rfl, okp, hw, u6, m6, h1, h2, ?_⟩
        simp
        refine ⟨many, rows, up, ls, _, rfl, okp, smp, m6, rw1, hw, ?_⟩
        simp
        refine ⟨_, _, rfl, ?_⟩
        simp
        exact hN _ ⟨_, rfl⟩
      · rintro s ⟨d19, rfl⟩
        simp
        refine ⟨(up.length : Int) + 1, b + 159, rfl, ht6.mono (by omega), by omega, by omega, fun q7 tp7 a7 b7 ht7 => ?_⟩
        simp
        rw [cut_map, cut_to up a7]
        have fsub : ∀ r ∈ up.take q7.toNat, r ∈ up := fun r hr => List.mem_of_mem_take hr
        have flen : (up.take q7.toNat).length ≤ 1000 := by
          rw [List.length_take]
          omega
        generalize up.take q7.toNat = fewer at fsub flen
        refine ⟨many, rows, fewer, lower, _, rfl, okp, hw, flen, m6, l0, fun r hr h => ld r hr (fsub r h), ?_⟩
        simp
        refine ⟨many, rows, fewer, lower, _, rfl, okp, smp, m6, rw1, hw, ?_⟩
        simp
        refine ⟨_, _, rfl, ?_⟩
        simp
        refine ⟨by rw [sizeLine_eq]; omega, (things.length : Int), b + 160, rfl, ht7.mono (by omega), by omega, by omega, fun q8 tp8 a8 b8 ht8 => ?_⟩
        have hy := List.getElem?_eq_getElem (l := things) (i := q8.toNat) (by omega)
        generalize things[q8.toNat]'(by omega) = y at hy
        have iY := atI_of a8 hy
        have oky := oks_at t1 hy
        simp [iY]
        refine ⟨by rw [sizeLine_eq]; omega, 4, b + 161, rfl, ht8.mono (by omega), by omega, by omega, fun q9 tp9 a9 b9 ht9 => ?_⟩
        obtain ⟨th, hth, okth⟩ : ∃ th : T, atI [T.tup [tI rules, tI nums], T.non, T.tup [tI rules, T.tup []], y] q9 = some th ∧ th.ok = true := by
          rcases at4 (x := T.tup [tI rules, tI nums]) (y := T.non) (z := T.tup [tI rules, T.tup []]) (w := y) a9 (by omega) with e | e | e | e
          · exact ⟨_, e, okp⟩
          · exact ⟨_, e, rfl⟩
          · exact ⟨_, e, by simp⟩
          · exact ⟨_, e, oky⟩
        simp [hth]
        refine ⟨many, rows, up, [], th, "empty", rfl, okth, hw, u6, m6, .inl ⟨rfl, rfl⟩, ?_⟩
        simp
        refine ⟨many, rows, [], [], th, "empty", rfl, okth, hw, by simp, m6, .inl ⟨rfl, rfl⟩, ?_⟩
        simp
        refine ⟨(lower.length : Int), b + 162, rfl, ht9.mono (by omega), by omega, by omega, fun q10 tp10 a10 b10 ht10 => ?_⟩
        have ll : 1 ≤ lower.length := List.length_pos_iff.mpr l0
        have iL := atI_ints (ns := lower) (i := q10) a10 (by omega)
        have iLm : lower.getD q10.toNat 0 ∈ lower := by
          rw [List.getD_eq_getElem?_getD, List.getElem?_eq_getElem (by omega)]
          exact List.getElem_mem _
        generalize lower.getD q10.toNat 0 = lq at iL iLm
        have hs : ∀ o, sortUR [.lst (up.map T.int ++ [T.int lq])] o ↔ o = .lst ((srt (up ++ [lq])).map T.int) := fun o => by
          rw [snoc_int, sortUR_l]
        have bl : (srt (up ++ [lq])).length ≤ 1000 := by
          rw [(srt_perm _).length_eq, List.length_append]
          simp
          omega
        simp [iL, hs]
        refine ⟨by rw [sizeLine_eq]; omega, by rw [sizeLine_eq]; omega, ?_⟩
        refine ⟨many, rows, srt (up ++ [lq]), lower, th, "common", rfl, okth, hw, bl, m6, .inr ⟨l0, ⟨lq, iLm, (srt_perm _).mem_iff.mpr (by simp)⟩, rfl⟩, ?_⟩
        simp
        refine ⟨many, rows, lower, lower, _, "common", rfl, okp, hw, by omega, m6, .inr ⟨l0, ⟨lq, iLm, iLm⟩, rfl⟩, ?_⟩
        simp
        refine ⟨many, rows, up, lower, _, rfl, okp, hw, u6, m6, l0, ld, ?_⟩
        rw [hp0]
        simp
        exact hk tp10 (ht10.mono (by omega))
theorem r__law_fences : ∀ a ts tp k, P__law_fences ts tp k → x__law_fences (enT a k) (stT 22 a tp ts) := by
  rintro a ts tp k ⟨many, b, rfl, m1, m6, htp, hb, hk⟩
  rw [fences_is]
  exact r_fh x_ft a _ tp k many b rfl m1 m6 htp hb fun up pool rules lower nums rows nothing things tp' d10 d11 d12 w => r_ft m1 m6 hb w hk
end Pf

namespace TL
open PySem PySem.Spec PyProof.Rows L2
theorem cut_from {α : Type} (xs : List α) {i : Int} (h : 0 ≤ i) : cut xs (some i) none = xs.drop i.toNat := by
  obtain ⟨n, rfl⟩ : ∃ n : Nat, i = n := ⟨i.toNat, by omega⟩
  unfold cut
  rw [HT.sIx_none, HT.sIx_nat, Int.toNat_natCast]
  by_cases c : n ≤ xs.length
  · rw [Nat.min_eq_left c, List.take_of_length_le (by rw [List.length_drop]; omega)]
  · rw [Nat.min_eq_right (by omega), List.drop_of_length_le (Nat.le_refl _), List.drop_of_length_le (by omega)]
    simp
@[simp] theorem e_inT {n : Bool} {i : Nat} {a : XE} {st : S} {k : T → S → Prop} : xInT n i a st k = a st fun u s1 => ∃ kvs ns, s1.ds[i]? = some (TL.Slot.ow (.dt kvs)) ∧ u = T.tup (ns.map T.int) ∧ k (.bl (n ^^ hasK kvs (kI ns))) s1 := rfl
@[simp] theorem e_inK {n : Bool} {i : Nat} {a : XE} {st : S} {k : T → S → Prop} : xInK n i a st k = a st fun u s1 => ∃ kvs c, s1.ds[i]? = some (TL.Slot.ow (.dk kvs)) ∧ keyT u = some c ∧ k (.bl (n ^^ hasK kvs c)) s1 := rfl
@[simp] theorem e_dnew {i : Nat} {D : Dx} {st : S} : xDnewK i D st = (i < st.ds.length ∧ D.nx (st.put i (.ow (.dk [])))) := rfl
@[simp] theorem e_dput {i : Nat} {a b : XE} {D : Dx} {st : S} : xDputK i a b D st = b st fun t s1 => (∃ kvs, s1.ds[i]? = some (TL.Slot.ow (.dk kvs))) ∧ a s1 fun u s2 => ∃ kvs c, s2.ds[i]? = some (TL.Slot.ow (.dk kvs)) ∧ keyT u = some c ∧ kvs.length < sizeLine ∧ D.nx (s2.put i (.ow (.dk (putT kvs c t)))) := rfl
@[simp] theorem e_sortD {i : Nat} {st : S} {k : Ob → S → Prop} : xSortedD i st k = ∃ kvs ns, st.ds[i]? = some (TL.Slot.ow (.dk kvs)) ∧ kvs.map (·.1) = ns.map Sum.inl ∧ k (.lst ((srt ns).map T.int)) st := rfl
theorem tIs_inj : ∀ {a b : List (List Int)}, a.map tI = b.map tI → a = b
  | [], [], _ => rfl
  | [], _ :: _, h => by simp at h
  | _ :: _, [], h => by simp at h
  | x :: a, y :: b, h => by
    rw [List.map_cons, List.map_cons] at h
    injection h with h1 h2
    injection h1 with h1
    rw [intsT_inj h1, tIs_inj h2]
end TL
namespace Pf
open PySem PySem.Spec PyProof.Rows L2 TL
theorem sets_tI {m : Int} : ∀ {ts : List T} {o : Option T}, setsF m o ts = true → ts = (ts.map toI).map tI ∧ ∀ ns ∈ ts.map toI, (∀ r ∈ ns, 0 ≤ r ∧ r ≤ m) ∧ Inc ns
  | [], _, _ => ⟨rfl, fun ns h => by simp at h⟩
  | t :: ts, o, h => by
    have h' : asc m t = true ∧ setsF m (some t) ts = true := by
      cases o with
      | none =>
        have h : (asc m t && setsF m (some t) ts) = true := h
        rwa [Bool.and_eq_true] at h
      | some a =>
        have h : ((asc m t && !tle (toI t) (toI a)) && setsF m (some t) ts) = true := h
        rw [Bool.and_eq_true, Bool.and_eq_true] at h
        exact ⟨h.1.1, h.2⟩
    obtain ⟨e1, e2, e3⟩ := asc_tI h'.1
    obtain ⟨g1, g2⟩ := sets_tI h'.2
    refine ⟨?_, fun ns hn => ?_⟩
    · rw [List.map_cons, List.map_cons, ← e1, ← g1]
    · rw [List.map_cons] at hn
      rcases List.mem_cons.mp hn with z | hn
      · rw [z]
        exact ⟨e2, e3⟩
      · exact g2 ns hn
theorem kf {k : Rt → Prop} {f g : T} (hk : k (.fr f)) (h : f = g) : k (.fr g) := h ▸ hk
theorem find_at {α : Type} {p : α → Bool} : ∀ {l : List α} {n : Nat} {x : α}, l[n]? = some x → p x = true → (∀ i y, i < n → l[i]? = some y → p y = false) → l.find? p = some x
  | [], _, _, h, _, _ => by simp at h
  | y :: l, 0, x, h, hp, _ => by
    simp at h
    subst h
    rw [List.find?_cons, hp]
  | y :: l, n + 1, x, h, hp, hb => by
    rw [List.find?_cons, hb 0 y (by omega) rfl]
    exact find_at (by simpa using h) hp fun i z hi hz => hb (i + 1) z (by omega) (by simpa using hz)
theorem r_family_fault : ∀ ts k, P_family_fault ts k → x_family_fault (enP k) (stP 8 ts) := by
  rintro ts k ⟨many, t, rfl, ok, sm, m6, hk⟩
  simp [x_family_fault]
  refine ⟨many, t, rfl, ok, ?_⟩
  unfold faultT at hk
  cases hs : setsB ((many : Int) - 1) t with
  | false =>
    rw [hs] at hk
    simp
    exact ⟨by rw [sizeLine_eq]; omega, hk⟩
  | true =>
    rw [hs, if_pos rfl] at hk
    cases t with
    | tup us =>
      obtain ⟨e1, e2⟩ := sets_tI (show setsF ((many : Int) - 1) none us = true from hs)
      have hk0 : k (.fr (fault many (us.map toI))) := hk
      clear hk
      generalize us.map toI = nss at e1 e2 hk0
      have hk := hk0
      clear hk0
      subst e1
      have ln : nss.length ≤ 1000 := by
        have : (nss.map tI).length ≤ 1000 := sm
        rwa [List.length_map] at this
      have h0 : ∀ ns : List Int, hasK (dcKvs nss) (kI ns) = decide (ns ∈ nss) := hasK_dc nss
      have e0 : hasK (dcKvs nss) [] = decide ([] ∈ nss) := h0 []
      have er := rg_full many
      simp [xDcT]
      refine ⟨nss, rfl, sz1000 (by omega), ?_⟩
      rw [e0]
      unfold fault at hk
      have nl : ∀ ns ∈ nss, ns.length ≤ 6 := fun ns h => by
        have z := e2 ns h
        have := inc_len' (a := 0) (m := (many : Int)) (by omega) z.2 fun r hr => by
          have := z.1 r hr
          omega
        omega
      by_cases c0 : [] ∈ nss
      · refine .inl ⟨decide_eq_true c0, ⟨by omega, by omega, by omega, by omega, by omega⟩, full many, rg_full many, ?_⟩
        rw [if_neg (fun h => h c0)] at hk
        rw [h0]
        by_cases c1 : full many ∈ nss
        · refine .inl ⟨decide_eq_true c1, ?_⟩
          rw [if_neg (fun h => h c1)] at hk
          refine for_ov (ts := nss.map tI) (fun n s => (∃ d3, s = ⟨[.fr (.int many), .fr (.tup (nss.map tI)), .ow (.dt (dcKvs nss)), d3, .un, .un, .un, .un], none⟩) ∧ ∀ i ns, i < n → nss[i]? = some ns → (!hasU nss ns) = false) ?_ ⟨⟨_, rfl⟩, fun i ns h => absurd h (by omega)⟩ ?_ ?_
          · intro k h
            simp
            exact h
          · rintro n x s hx ⟨⟨d3, rfl⟩, hp⟩ N hN
            obtain ⟨ns, h1, rfl⟩ := map_get hx
            have hmem := List.mem_of_getElem? h1
            have hnl := nl ns hmem
            have nx : (!hasU nss ns) = false → N ⟨[.fr (.int many), .fr (.tup (nss.map tI)), .ow (.dt (dcKvs nss)), .fr (tI ns), .un, .un, .un, .un], none⟩ := fun h => hN _ ⟨⟨_, rfl⟩, fun i ms hi hm => by
              by_cases q : i < n
              · exact hp i ms q hm
              · have : i = n := by omega
                subst this
                rw [h1] at hm
                cases hm
                exact h⟩
            simp
            by_cases ce : ns = []
            · subst ce
              simp
              exact nx rfl
            · simp [ce]
              refine lc_map T.int toI1 (fun _ => rfl) ns (fun r => decide (wo ns r ∈ nss)) T.int ?_ (by simp) (by simp) (sz1000 (by omega)) ?_ ?_ ?_
              · intro k h
                simp
                exact h
              · intro r hr
                simp
                refine ⟨ns, r, rfl, by omega, ?_⟩
                simp [h0]
              · intro r hr _
                simp
              · simp
                cases hu : hasU nss ns with
                | true =>
                  have z := nx (by rw [hu]; rfl)
                  have hex : ∃ r, r ∈ ns ∧ wo ns r ∈ nss := by
                    unfold hasU at hu
                    rw [show ns.isEmpty = false by simpa using ce, Bool.false_or, List.any_eq_true] at hu
                    obtain ⟨r, h2, h3⟩ := hu
                    exact ⟨r, h2, of_decide_eq_true h3⟩
                  obtain ⟨r, h2, h3⟩ := hex
                  first
                    | exact .inl ⟨⟨r, h2, h3⟩, z⟩
                    | exact .inr ⟨⟨r, h2, h3⟩, z⟩
                    | exact .inl ⟨fun h => h r h2 h3, z⟩
                    | exact .inr ⟨r, h2, h3, z⟩
                    | trace_state
                | false =>
                  have z := find_at h1 (p := fun ns => !hasU nss ns) (by show (!hasU nss ns) = true; rw [hu]; rfl) hp
                  rw [z] at hk
                  have hall : ∀ r, r ∈ ns → wo ns r ∉ nss := fun r h2 h3 => by
                    unfold hasU at hu
                    rw [Bool.or_eq_false_iff, List.any_eq_false] at hu
                    exact hu.2 r h2 (decide_eq_true h3)
                  first
                    | exact .inr ⟨hall, by rw [sizeLine_eq]; omega, hk⟩
                    | exact .inl ⟨hall, by rw [sizeLine_eq]; omega, hk⟩
                    | trace_state
          · rintro s ⟨⟨d3, rfl⟩, hp⟩
            rw [List.length_map] at hp
            have hf : nss.find? (fun ns => !hasU nss ns) = none := List.find?_eq_none.mpr fun ns hn => by
              obtain ⟨i, hi⟩ := List.getElem?_of_mem hn
              rw [hp i ns (List.getElem?_eq_some_iff.mp hi).1 hi]
              decide
            rw [hf] at hk
            simp
            have hk : k (.fr (match pairU nss nss with
              | some (a, b) => .tup [.str "union", tI a, tI b]
              | none => .non)) := hk
            refine for_ov (ts := enumT 0 (nss.map tI)) (fun n s => (∃ d4 d5 d6, s = ⟨[.fr (.int many), .fr (.tup (nss.map tI)), .ow (.dt (dcKvs nss)), d3, d4, d5, d6, .un], none⟩) ∧ pairU nss nss = pairU nss (nss.drop n)) ?_ ⟨⟨_, _, _, rfl⟩, rfl⟩ ?_ ?_
            · intro k h
              simp
              exact h
            · rintro n x s hx ⟨⟨d4, d5, d6, rfl⟩, hp⟩ N hN
              obtain ⟨t, h1, rfl⟩ := enumT_el hx
              obtain ⟨ns, h2, rfl⟩ := map_get h1
              rw [drop_at h2] at hp
              have hp : pairU nss nss = (match (nss.drop (n + 1)).find? fun b => decide (uni ns b ∉ nss) with
                | some b => some (ns, b)
                | none => pairU nss (nss.drop (n + 1))) := hp
              have hnl := nl ns (List.mem_of_getElem? h2)
              simp
              refine for_ov (ts := (nss.drop (n + 1)).map tI) (fun m s => (∃ d6, s = ⟨[.fr (.int many), .fr (.tup (nss.map tI)), .ow (.dt (dcKvs nss)), d3, .fr (.int n), .fr (tI ns), d6, .un], none⟩) ∧ ∀ i ms, i < m → (nss.drop (n + 1))[i]? = some ms → decide (uni ns ms ∉ nss) = false) ?_ ⟨⟨_, rfl⟩, fun i ms h => absurd h (by omega)⟩ ?_ ?_
              · intro k h
                simp
                rw [cut_map, cut_from nss (by omega), show ((n : Int) + 1).toNat = n + 1 by omega]
                exact h
              · rintro m x s hx ⟨⟨d6, rfl⟩, hq⟩ N2 hN2
                obtain ⟨ms, h3, rfl⟩ := map_get hx
                have hml := nl ms (List.mem_of_mem_drop (List.mem_of_getElem? h3))
                simp
                refine ⟨ns, ms, rfl, by omega, by omega, ?_⟩
                simp [h0]
                by_cases cu : uni ns ms ∈ nss
                · simp [cu]
                  refine hN2 _ ⟨⟨_, rfl⟩, fun i zs hi hz => ?_⟩
                  by_cases q : i < m
                  · exact hq i zs q hz
                  · have : i = m := by omega
                    subst this
                    rw [h3] at hz
                    cases hz
                    exact decide_eq_false fun h => h cu
                · simp [cu]
                  refine ⟨by rw [sizeLine_eq]; omega, ?_⟩
                  rw [find_at h3 (p := fun b => decide (uni ns b ∉ nss)) (decide_eq_true cu) hq] at hp
                  rw [hp] at hk
                  exact hk
              · rintro s ⟨⟨d6, rfl⟩, hq⟩
                rw [List.length_map] at hq
                have hf : (nss.drop (n + 1)).find? (fun b => decide (uni ns b ∉ nss)) = none := List.find?_eq_none.mpr fun ms hm => by
                  obtain ⟨i, hi⟩ := List.getElem?_of_mem hm
                  rw [hq i ms (List.getElem?_eq_some_iff.mp hi).1 hi]
                  decide
                rw [hf] at hp
                simp
                exact hN _ ⟨⟨_, _, _, rfl⟩, hp⟩
            · rintro s ⟨⟨d4, d5, d6, rfl⟩, hp⟩
              rw [enumT_len, List.length_map, List.drop_length] at hp
              rw [hp] at hk
              simp
              exact hk
        · refine .inr ⟨decide_eq_false c1, by rw [sizeLine_eq]; omega, ?_⟩
          rw [if_pos c1] at hk
          exact hk
      · refine .inr ⟨decide_eq_false c0, by rw [sizeLine_eq]; omega, ?_⟩
        rw [if_pos c0] at hk
        exact hk
    | _ => cases hs
end Pf

namespace Pf
open PySem PySem.Spec PyProof.Rows L2 TL
def bz (b : Bool) : Int := if b then 1 else 0
def mb (b0 b1 b2 b3 b4 b5 : Bool) : Int := bz b0 + 2 * bz b1 + 4 * bz b2 + 8 * bz b3 + 16 * bz b4 + 32 * bz b5
def mI (ns : List Int) (i : Int) : Bool := decide (i ∈ ns)
def mo (ns : List Int) : Int := mb (mI ns 0) (mI ns 1) (mI ns 2) (mI ns 3) (mI ns 4) (mI ns 5)
theorem mI_cons (r : Int) (ns : List Int) (i : Int) : mI (r :: ns) i = (decide (i = r) || mI ns i) := by
  unfold mI
  rw [Bool.eq_iff_iff]
  simp
theorem mask_mo : ∀ {ns : List Int}, InR 6 ns → ns.Nodup → maskZ ns = mo ns
  | [], _, _ => rfl
  | r :: ns, h, nd => by
    have h1 := List.nodup_cons.mp nd
    have ih := mask_mo (ns := ns) (fun q hq => h q (List.mem_cons_of_mem _ hq)) h1.2
    have hr := h r List.mem_cons_self
    have e : maskZ (r :: ns) = bitv r + maskZ ns := by
      unfold maskZ
      rw [List.map_cons, List.sum_cons]
    have hf : mI ns r = false := decide_eq_false h1.1
    rw [e, ih]
    unfold mo
    simp only [mI_cons]
    have : r = 0 ∨ r = 1 ∨ r = 2 ∨ r = 3 ∨ r = 4 ∨ r = 5 := by omega
    rcases this with rfl | rfl | rfl | rfl | rfl | rfl <;> (rw [hf]; simp [mb, bz, bitv]; omega)
theorem bz01 (b : Bool) : bz b = 0 ∨ bz b = 1 := by cases b <;> simp [bz]
theorem bz_inj {a b : Bool} (h : bz a = bz b) : a = b := by cases a <;> cases b <;> simp [bz] at h ⊢
theorem bz_step {b c : Bool} {x y : Int} (h : bz b + 2 * x = bz c + 2 * y) : b = c ∧ x = y := by
  have h1 := bz01 b
  have h2 := bz01 c
  exact ⟨bz_inj (by omega), by omega⟩
theorem mb_nest (b0 b1 b2 b3 b4 b5 : Bool) : mb b0 b1 b2 b3 b4 b5 = bz b0 + 2 * (bz b1 + 2 * (bz b2 + 2 * (bz b3 + 2 * (bz b4 + 2 * (bz b5 + 2 * 0))))) := by
  unfold mb
  omega
theorem mb_inj {a0 a1 a2 a3 a4 a5 b0 b1 b2 b3 b4 b5 : Bool} (h : mb a0 a1 a2 a3 a4 a5 = mb b0 b1 b2 b3 b4 b5) : a0 = b0 ∧ a1 = b1 ∧ a2 = b2 ∧ a3 = b3 ∧ a4 = b4 ∧ a5 = b5 := by
  rw [mb_nest, mb_nest] at h
  obtain ⟨h0, h⟩ := bz_step h
  obtain ⟨h1, h⟩ := bz_step h
  obtain ⟨h2, h⟩ := bz_step h
  obtain ⟨h3, h⟩ := bz_step h
  obtain ⟨h4, h⟩ := bz_step h
  obtain ⟨h5, h⟩ := bz_step h
  exact ⟨h0, h1, h2, h3, h4, h5⟩
theorem inc_ext : ∀ {l m : List Int}, Inc l → Inc m → (∀ i, i ∈ l ↔ i ∈ m) → l = m
  | [], [], _, _, _ => rfl
  | [], y :: m, _, _, h => absurd ((h y).mpr List.mem_cons_self) (by simp)
  | x :: l, [], _, _, h => absurd ((h x).mp List.mem_cons_self) (by simp)
  | x :: l, y :: m, h1, h2, h => by
    have a := List.pairwise_cons.mp h1
    have b := List.pairwise_cons.mp h2
    have e : x = y := by
      have p := (h x).mp List.mem_cons_self
      have q := (h y).mpr List.mem_cons_self
      rcases List.mem_cons.mp p with z | z
      · exact z
      · rcases List.mem_cons.mp q with z2 | z2
        · exact z2.symm
        · have := b.1 x z
          have := a.1 y z2
          omega
    subst e
    rw [inc_ext a.2 b.2 fun i => ⟨fun hi => by
      rcases List.mem_cons.mp ((h i).mp (List.mem_cons_of_mem _ hi)) with z | z
      · have := a.1 i hi
        omega
      · exact z, fun hi => by
      rcases List.mem_cons.mp ((h i).mpr (List.mem_cons_of_mem _ hi)) with z | z
      · have := b.1 i hi
        omega
      · exact z⟩]
theorem inc_nodup {ns : List Int} (h : Inc ns) : ns.Nodup := h.imp fun {a b} h => by
  show a ≠ b
  omega
theorem mask_inj {a b : List Int} (ha : InR 6 a) (hb : InR 6 b) (ia : Inc a) (ib : Inc b) (h : maskZ a = maskZ b) : a = b := by
  rw [mask_mo ha (inc_nodup ia), mask_mo hb (inc_nodup ib)] at h
  obtain ⟨h0, h1, h2, h3, h4, h5⟩ := mb_inj h
  have g : ∀ i : Int, 0 ≤ i → i < 6 → mI a i = mI b i := fun i i0 i1 => by
    have : i = 0 ∨ i = 1 ∨ i = 2 ∨ i = 3 ∨ i = 4 ∨ i = 5 := by omega
    rcases this with rfl | rfl | rfl | rfl | rfl | rfl <;> assumption
  refine inc_ext ia ib fun i => ⟨fun hi => ?_, fun hi => ?_⟩
  · have z := ha i hi
    have := g i z.1 (by omega)
    have e : mI a i = true := decide_eq_true hi
    rw [e] at this
    exact of_decide_eq_true this.symm
  · have z := hb i hi
    have := g i z.1 (by omega)
    have e : mI b i = true := decide_eq_true hi
    rw [e] at this
    exact of_decide_eq_true this
def bzN (b : Bool) : Nat := cond b 1 0
def mbN (b0 b1 b2 b3 b4 b5 : Bool) : Nat := bzN b0 + 2 * bzN b1 + 4 * bzN b2 + 8 * bzN b3 + 16 * bzN b4 + 32 * bzN b5
theorem bz_N (b : Bool) : bz b = (bzN b : Int) := by cases b <;> rfl
theorem mb_N (b0 b1 b2 b3 b4 b5 : Bool) : mb b0 b1 b2 b3 b4 b5 = (mbN b0 b1 b2 b3 b4 b5 : Int) := by
  unfold mb mbN
  rw [bz_N, bz_N, bz_N, bz_N, bz_N, bz_N]
  omega
theorem bzN01 (b : Bool) : bzN b = 0 ∨ bzN b = 1 := by cases b <;> simp [bzN]
theorem or_step (b c : Bool) (x y : Nat) : (bzN b + 2 * x) ||| (bzN c + 2 * y) = bzN (b || c) + 2 * (x ||| y) := by
  have d : ((bzN b + 2 * x) ||| (bzN c + 2 * y)) / 2 = x ||| y := by
    rw [Nat.or_div_two]
    have hb := bzN01 b
    have hc := bzN01 c
    rw [show (bzN b + 2 * x) / 2 = x by omega, show (bzN c + 2 * y) / 2 = y by omega]
  have m : ((bzN b + 2 * x) ||| (bzN c + 2 * y)) % 2 = 1 ↔ bzN (b || c) = 1 := by
    rw [Nat.or_mod_two_eq_one]
    cases b <;> cases c <;> simp [bzN] <;> omega
  have hbc := bzN01 (b || c)
  have hm := Nat.mod_two_eq_zero_or_one ((bzN b + 2 * x) ||| (bzN c + 2 * y))
  have hd := Nat.div_add_mod ((bzN b + 2 * x) ||| (bzN c + 2 * y)) 2
  rw [d] at hd
  rcases hbc with h | h
  · have : ¬ ((bzN b + 2 * x) ||| (bzN c + 2 * y)) % 2 = 1 := fun z => by
      have := m.mp z
      omega
    omega
  · have := m.mpr h
    omega
theorem mbN_nest (b0 b1 b2 b3 b4 b5 : Bool) : mbN b0 b1 b2 b3 b4 b5 = bzN b0 + 2 * (bzN b1 + 2 * (bzN b2 + 2 * (bzN b3 + 2 * (bzN b4 + 2 * (bzN b5 + 2 * 0))))) := by
  unfold mbN
  omega
theorem bor_N (a0 a1 a2 a3 a4 a5 b0 b1 b2 b3 b4 b5 : Bool) : mbN a0 a1 a2 a3 a4 a5 ||| mbN b0 b1 b2 b3 b4 b5 = mbN (a0 || b0) (a1 || b1) (a2 || b2) (a3 || b3) (a4 || b4) (a5 || b5) := by
  rw [mbN_nest, mbN_nest, mbN_nest, or_step, or_step, or_step, or_step, or_step, or_step, Nat.or_zero]
theorem bor_nn (a b : Nat) : Builtin.bitOr (a : Int) (b : Int) = ((a ||| b : Nat) : Int) := by
  have h : ∀ n : Nat, ¬ (0 ≤ Builtin.bitNot (n : Int)) := fun n => by
    unfold Builtin.bitNot
    omega
  have g : ∀ n : Nat, Builtin.bitNot (Builtin.bitNot (n : Int)) = (n : Int) := fun n => by
    unfold Builtin.bitNot
    omega
  unfold Builtin.bitOr Builtin.bitAnd
  rw [decide_eq_false (h a), decide_eq_false (h b)]
  show Builtin.bitNot (Builtin.bitNot _) = _
  rw [g, g, g, Int.toNat_natCast, Int.toNat_natCast]
theorem bor_mb (a0 a1 a2 a3 a4 a5 b0 b1 b2 b3 b4 b5 : Bool) : Builtin.bitOr (mb a0 a1 a2 a3 a4 a5) (mb b0 b1 b2 b3 b4 b5) = mb (a0 || b0) (a1 || b1) (a2 || b2) (a3 || b3) (a4 || b4) (a5 || b5) := by
  rw [mb_N, mb_N, mb_N, bor_nn, bor_N]
theorem wo_inc {ns : List Int} (r : Int) (h : Inc ns) : Inc (wo ns r) := h.sublist List.filter_sublist
theorem wo_mem {ns : List Int} {r i : Int} : i ∈ wo ns r ↔ i ∈ ns ∧ i ≠ r := by
  unfold wo
  rw [List.mem_filter]
  simp
theorem uni_mem {a b : List Int} {i : Int} : i ∈ uni a b ↔ i ∈ a ∨ i ∈ b := by
  unfold uni
  rw [(srt_perm _).mem_iff, List.mem_append, List.mem_filter]
  by_cases c : i ∈ a
  · simp [c]
  · simp [c]
theorem uni_inc {a b : List Int} (ha : Inc a) (hb : Inc b) : Inc (uni a b) := by
  refine inc_srt ?_
  refine List.nodup_append.mpr ⟨inc_nodup ha, inc_nodup (hb.sublist List.filter_sublist), fun x hx y hy => ?_⟩
  intro z
  subst z
  have := (List.mem_filter.mp hy).2
  exact of_decide_eq_true this hx
theorem mI_wo (ns : List Int) (r i : Int) : mI (wo ns r) i = (mI ns i && !decide (i = r)) := by
  unfold mI
  rw [Bool.eq_iff_iff]
  simp [wo_mem]
theorem mI_uni (a b : List Int) (i : Int) : mI (uni a b) i = (mI a i || mI b i) := by
  unfold mI
  rw [Bool.eq_iff_iff]
  simp [uni_mem]
theorem mask_wo {ns : List Int} {r : Int} (h : InR 6 ns) (hi : Inc ns) (hr : r ∈ ns) : maskZ (wo ns r) = maskZ ns - bitv r := by
  rw [mask_mo (fun q hq => h q (wo_mem.mp hq).1) (inc_nodup (wo_inc r hi)), mask_mo h (inc_nodup hi)]
  have hb := h r hr
  have hf : mI ns r = true := decide_eq_true hr
  unfold mo
  simp only [mI_wo]
  have : r = 0 ∨ r = 1 ∨ r = 2 ∨ r = 3 ∨ r = 4 ∨ r = 5 := by omega
  rcases this with rfl | rfl | rfl | rfl | rfl | rfl <;> (rw [hf]; simp [mb, bz, bitv]; try omega)
theorem mask_uni {a b : List Int} (ha : InR 6 a) (hb : InR 6 b) (ia : Inc a) (ib : Inc b) : maskZ (uni a b) = Builtin.bitOr (maskZ a) (maskZ b) := by
  rw [mask_mo ha (inc_nodup ia), mask_mo hb (inc_nodup ib), mask_mo (fun q hq => (uni_mem.mp hq).elim (ha q) (hb q)) (inc_nodup (uni_inc ia ib))]
  unfold mo
  simp only [mI_uni]
  exact (bor_mb _ _ _ _ _ _ _ _ _ _ _ _).symm
theorem bitv_pos (r : Int) : 0 < bitv r := by
  unfold bitv
  exact Int.pow_pos (by omega)
theorem mask_nn : ∀ ns : List Int, 0 ≤ maskZ ns ∧ (ns ≠ [] → 0 < maskZ ns)
  | [] => ⟨Int.le_refl _, fun h => absurd rfl h⟩
  | r :: ns => by
    have e : maskZ (r :: ns) = bitv r + maskZ ns := by
      unfold maskZ
      rw [List.map_cons, List.sum_cons]
    have h1 := (mask_nn ns).1
    have h2 := bitv_pos r
    rw [e]
    exact ⟨by omega, fun _ => by omega⟩
theorem full_mask {many : Nat} (h : many ≤ 6) : atI [T.int 0, T.int 1, T.int 3, T.int 7, T.int 15, T.int 31, T.int 63] (many : Int) = some (.int (maskZ (full many))) := by
  have : many = 0 ∨ many = 1 ∨ many = 2 ∨ many = 3 ∨ many = 4 ∨ many = 5 ∨ many = 6 := by omega
  rcases this with rfl | rfl | rfl | rfl | rfl | rfl | rfl <;> rfl
end Pf

namespace Pf
open PySem PySem.Spec PyProof.Rows L2 TL
/-- the dict of the masks -/
def mkv (zs : List Int) : List (Key × T) := zs.foldl (fun acc z => putT acc (Sum.inl z) (.bl true)) []
theorem mkv_snoc (zs : List Int) (z : Int) : mkv (zs ++ [z]) = putT (mkv zs) (Sum.inl z) (.bl true) := by unfold mkv; rw [List.foldl_append]; rfl
theorem has_mkv (zs : List Int) (z : Int) : hasK (mkv zs) (Sum.inl z) = decide (z ∈ zs) := by
  have gen : ∀ (l : List Int) (acc : List (Key × T)), hasK (l.foldl (fun acc z => putT acc (Sum.inl z) (.bl true)) acc) (Sum.inl z) = (hasK acc (Sum.inl z) || decide (z ∈ l)) := by
    intro l
    induction l with
    | nil => intro acc; simp
    | cons x l ih =>
      intro acc
      rw [List.foldl_cons, ih, hasK_put]
      by_cases e : z = x
      · simp [e]
      · have : ¬ (Sum.inl z : Key) = Sum.inl x := fun h => e (Sum.inl.inj h)
        simp [e, this]
  unfold mkv
  rw [gen]
  rfl
theorem mkv_len (zs : List Int) : (mkv zs).length ≤ zs.length := by
  have gen : ∀ (l : List Int) (acc : List (Key × T)), (l.foldl (fun acc z => putT acc (Sum.inl z) (.bl true)) acc).length ≤ acc.length + l.length := by
    intro l
    induction l with
    | nil => intro acc; simp
    | cons x l ih =>
      intro acc
      have h1 := ih (putT acc (Sum.inl x) (.bl true))
      have h2 := putT_len acc (Sum.inl x : Key) (.bl true)
      rw [List.foldl_cons, List.length_cons]
      omega
  have := gen zs []
  simpa [mkv] using this
@[simp] theorem keyT_int (i : Int) : keyT (.int i) = some (Sum.inl i) := rfl
theorem mask_mem {nss : List (List Int)} (h : ∀ ns ∈ nss, InR 6 ns ∧ Inc ns) {x : List Int} (hx : InR 6 x) (ix : Inc x) : decide (maskZ x ∈ nss.map maskZ) = decide (x ∈ nss) := by
  rw [decide_eq_decide, List.mem_map]
  exact ⟨fun ⟨y, hy, e⟩ => by
    have := mask_inj (h y hy).1 hx (h y hy).2 ix e
    rw [← this]
    exact hy, fun hm => ⟨x, hm, rfl⟩⟩
theorem kff {k : Rt → Prop} {many : Nat} {us : List T} (hk : k (.fr (faultT many (.tup us)))) (h : setsF ((many : Int) - 1) none us = false) : k (.fr (.tup [.str "order"])) := by
  unfold faultT at hk
  rw [show setsB ((many : Int) - 1) (.tup us) = false from h] at hk
  exact hk
theorem r__law_fault : ∀ ts k, P__law_fault ts k → x__law_fault (enP k) (stP 10 ts) := by
  rintro ts k ⟨many, t, rfl, ok, sm, m6, hk⟩
  have m60 : (many : Int) < 2 ^ 60 := by
    have : (many : Int) ≤ 6 := by omega
    exact Int.lt_of_le_of_lt this (by decide)
  simp [x__law_fault, isi_tup ok]
  cases t with
  | tup us =>
    simp [isTup]
    have lu : us.length ≤ 1000 := sm.1
    refine for_ov (ts := rgT 0 us.length) (fun n s => (∃ d2, s = ⟨[.fr (.int many), .fr (.tup us), d2, .un, .un, .un, .un, .un, .un, .un], none⟩) ∧ ∃ o : Option (List Int), setsF ((many : Int) - 1) none us = setsF ((many : Int) - 1) (o.map tI) (us.drop n) ∧ ((n = 0 ∧ o = none) ∨ (0 < n ∧ ∃ ns, o = some ns ∧ us[n - 1]? = some (tI ns)))) ?_ ⟨⟨_, rfl⟩, none, rfl, .inl ⟨rfl, rfl⟩⟩ ?_ ?_
    · intro k h
      simp
      exact ⟨by omega, h⟩
    · rintro n x s hx ⟨⟨d2, rfl⟩, o, hp, ho⟩ N hN
      obtain ⟨rfl, hn⟩ := rgT_get hx
      have hn' : n < us.length := by omega
      have hy : us[n]? = some us[n] := List.getElem?_eq_getElem hn'
      generalize us[n] = y at hy
      have oky := oks_at ok hy
      have smy := sm.2 y (List.mem_of_getElem? hy)
      have iy := atI_nat hy
      rw [drop_at hy] at hp
      simp [iy]
      refine ⟨y, many, rfl, oky, m60, fun vs hv => ?_, ?_⟩
      · rw [hv] at smy
        exact sz1000' (by have : vs.length ≤ 1000 := smy; omega)
      · cases ha : asc ((many : Int) - 1) y with
        | false =>
          simp
          refine ⟨by rw [sizeLine_eq]; omega, kff hk ?_⟩
          rw [hp]
          cases o <;> simp [setsF, ha]
        | true =>
          obtain ⟨e1, e2, e3⟩ := asc_tI ha
          generalize hn : toI y = ns at e1 e2 e3
          subst e1
          rcases ho with ⟨rfl, rfl⟩ | ⟨h1, ps, rfl, h2⟩
          · simp
            refine hN _ ⟨⟨_, rfl⟩, some ns, ?_, .inr ⟨by omega, ns, rfl, hy⟩⟩
            rw [hp]
            show (asc ((many : Int) - 1) (tI ns) && _) = _
            rw [ha, Bool.true_and]
            rfl
          · have h3 : atI us ((n : Int) - 1) = some (tI ps) := atI_of (by omega) (by rw [show ((n : Int) - 1).toNat = n - 1 by omega]; exact h2)
            have h0 : n ≠ 0 := by omega
            have hp : setsF ((many : Int) - 1) none us = ((asc ((many : Int) - 1) (tI ns) && !tle (toI (tI ns)) (toI (tI ps))) && setsF ((many : Int) - 1) (some (tI ns)) (us.drop (n + 1))) := hp
            rw [toI_tI, toI_tI, ha, Bool.true_and] at hp
            simp [h1, h0, h3, iy]
            cases hc : tle ns ps with
            | true =>
              simp
              refine ⟨by rw [sizeLine_eq]; omega, kff hk ?_⟩
              rw [hp, hc]
              rfl
            | false =>
              simp
              refine hN _ ⟨⟨_, rfl⟩, some ns, ?_, .inr ⟨by omega, ns, rfl, hy⟩⟩
              rw [hp, hc]
              rfl
    · rintro s ⟨⟨d2, rfl⟩, o, hp, ho⟩
      rw [rgT_len, show ((us.length : Int) - 0).toNat = us.length by omega, List.drop_length] at hp
      have hs : setsB ((many : Int) - 1) (.tup us) = true := by
        show setsF _ none us = true
        rw [hp]
        cases o <;> rfl
      unfold faultT at hk
      rw [hs, if_pos rfl] at hk
      obtain ⟨e1, e2⟩ := sets_tI (show setsF ((many : Int) - 1) none us = true from hs)
      have hk0 : k (.fr (fault many (us.map toI))) := hk
      clear hk hp ho hs
      generalize us.map toI = nss at e1 e2 hk0
      have hk := hk0
      clear hk0
      subst e1
      have ln : nss.length ≤ 1000 := by rwa [List.length_map] at lu
      have nr : ∀ ns ∈ nss, InR 6 ns ∧ Inc ns := fun ns hn => ⟨fun r hr => by
        have := (e2 ns hn).1 r hr
        omega, (e2 ns hn).2⟩
      have fr6 : InR 6 (full many) := fun r hr => by
        have := full_mem.mp hr
        omega
      simp
      refine lc_all tI toI (fun ns => toI_tI ns) nss (fun ns => T.int (maskZ ns)) ?_ (by simp) (by simp) (sz1000 (by omega)) ?_ ?_
      · intro k h
        simp
        exact h
      · intro ns hn
        simp
        exact ⟨ns, rfl, (nr ns hn).1, by simp⟩
      have em : nss.map (fun ns => T.int (maskZ ns)) = (nss.map maskZ).map T.int := by
        rw [List.map_map]
        rfl
      have zm : ∀ {x : List Int}, InR 6 x → Inc x → decide (maskZ x ∈ nss.map maskZ) = decide (x ∈ nss) := fun hx ix => mask_mem nr hx ix
      have zl : (nss.map maskZ).length = nss.length := List.length_map _
      have zg : ∀ {i : Nat} {ns : List Int}, nss[i]? = some ns → (nss.map maskZ)[i]? = some (maskZ ns) := fun h => by rw [List.getElem?_map, h]; rfl
      rw [em]
      clear em
      generalize nss.map maskZ = zs at zm zl zg
      simp
      refine for_ov (ts := zs.map T.int) (fun n s => ∃ d5, s = ⟨[.fr (.int many), .fr (.tup (nss.map tI)), d2, .fr (.lst (zs.map T.int)), .ow (.dk (mkv (zs.take n))), d5, .un, .un, .un, .un], none⟩) ?_ ⟨_, rfl⟩ ?_ ?_
      · intro k h
        simp
        exact h
      · rintro n x s hx ⟨d5, rfl⟩ N hN
        obtain ⟨z, h1, rfl⟩ := ints_get hx
        simp
        refine ⟨?_, hN _ ⟨.fr (.int z), ?_⟩⟩
        · have h2 := mkv_len (zs.take n)
          rw [List.length_take] at h2
          rw [sizeLine_eq]
          omega
        · rw [take_at h1, mkv_snoc]
      · rintro s ⟨d5, rfl⟩
        rw [List.length_map, List.take_length]
        have fm := full_mask m6
        simp [fm, has_mkv]
        have z0 : decide (0 ∈ zs) = decide ([] ∈ nss) := zm (x := []) (fun r h => by simp at h) List.Pairwise.nil
        have zf := zm fr6 (full_inc many)
        have z0' : (0 ∈ zs) ↔ ([] ∈ nss) := by simpa using z0
        have zf' : (maskZ (full many) ∈ zs) ↔ (full many ∈ nss) := by simpa using zf
        rw [z0', zf']
        unfold fault at hk
        by_cases c0 : [] ∈ nss
        · refine .inl ⟨c0, by rw [sizeLine_eq]; omega, ?_⟩
          rw [if_neg (fun h => h c0)] at hk
          by_cases c1 : full many ∈ nss
          · refine .inl ⟨c1, ?_⟩
            rw [if_neg (fun h => h c1)] at hk
            refine for_ov (ts := rgT 0 nss.length) (fun n s => (∃ d2 d6 d7, s = ⟨[.fr (.int many), .fr (.tup (nss.map tI)), d2, .fr (.lst (zs.map T.int)), .ow (.dk (mkv zs)), d5, d6, d7, .un, .un], none⟩) ∧ ∀ i ns, i < n → nss[i]? = some ns → (!hasU nss ns) = false) ?_ ⟨⟨_, _, _, rfl⟩, fun i ns h => absurd h (by omega)⟩ ?_ ?_
            · intro k h
              simp
              exact ⟨by omega, h⟩
            · rintro n x s hx ⟨⟨d2, d6, d7, rfl⟩, hp⟩ N hN
              obtain ⟨rfl, hn⟩ := rgT_get hx
              have h1 : nss[n]? = some nss[n] := List.getElem?_eq_getElem (by omega)
              generalize nss[n]'(by omega) = ns at h1
              have hmem := List.mem_of_getElem? h1
              have iy : atI (nss.map tI) (n : Int) = some (tI ns) := atI_nat (by rw [List.getElem?_map, h1]; rfl)
              have iz : atI (zs.map T.int) (n : Int) = some (.int (maskZ ns)) := atI_nat (by rw [List.getElem?_map, zg h1]; rfl)
              have nx : ∀ d6 d7 : TL.Slot, (!hasU nss ns) = false → N ⟨[.fr (.int many), .fr (.tup (nss.map tI)), .fr (.int n), .fr (.lst (zs.map T.int)), .ow (.dk (mkv zs)), d5, d6, d7, .un, .un], none⟩ := fun d6 d7 h => hN _ ⟨⟨_, _, _, rfl⟩, fun i ms hi hm => by
                by_cases q : i < n
                · exact hp i ms q hm
                · have : i = n := by omega
                  subst this
                  rw [h1] at hm
                  cases hm
                  exact h⟩
              simp [iz]
              by_cases ce : ns = []
              · subst ce
                have : ¬ (0 < maskZ []) := by decide
                simp [this]
                exact ⟨by decide, nx _ _ rfl⟩
              · have hpos := (mask_nn ns).2 ce
                simp [hpos, Int.not_le.mpr hpos]
                refine for_ov (ts := ns.map T.int) (fun m s => ∃ d7, s = ⟨[.fr (.int many), .fr (.tup (nss.map tI)), .fr (.int n), .fr (.lst (zs.map T.int)), .ow (.dk (mkv zs)), d5, .fr (.bl ((ns.take m).any fun r => decide (wo ns r ∈ nss))), d7, .un, .un], none⟩) ?_ ⟨_, rfl⟩ ?_ ?_
                · intro k h
                  simp [iy]
                  exact h
                · rintro m x s hx2 ⟨d7, rfl⟩ N2 hN2
                  obtain ⟨r, h2, rfl⟩ := ints_get hx2
                  have hrm := List.mem_of_getElem? h2
                  have hrb := (nr ns hmem).1 r hrm
                  have hbit := bit_at hrb.1 (by omega)
                  have hw := mask_wo (nr ns hmem).1 (nr ns hmem).2 hrm
                  have hz := zm (x := wo ns r) (fun q hq => (nr ns hmem).1 q (wo_mem.mp hq).1) (wo_inc r (nr ns hmem).2)
                  rw [hw] at hz
                  simp [iz, hbit, has_mkv]
                  refine ⟨by rw [sizeLine_eq]; omega, ?_⟩
                  have hz' : (maskZ ns - bitv r ∈ zs) ↔ (wo ns r ∈ nss) := by simpa using hz
                  rw [hz']
                  have tk := take_at h2
                  by_cases cw : wo ns r ∈ nss
                  · simp [cw]
                    refine hN2 _ ⟨.fr (.int r), ?_⟩
                    rw [tk, List.any_append]
                    simp [cw]
                  · simp [cw]
                    refine hN2 _ ⟨.fr (.int r), ?_⟩
                    rw [tk, List.any_append]
                    simp [cw]
                · rintro s ⟨d7, rfl⟩
                  rw [List.length_map, List.take_length]
                  have hu2 : hasU nss ns = ns.any fun r => decide (wo ns r ∈ nss) := by
                    unfold hasU
                    rw [show ns.isEmpty = false by simpa using ce, Bool.false_or]
                  cases hu : hasU nss ns with
                  | true =>
                    have z := nx (.fr (.bl true)) d7 (by rw [hu]; rfl)
                    rw [← hu2, hu]
                    simp
                    exact z
                  | false =>
                    have z := find_at h1 (p := fun ns => !hasU nss ns) (by show (!hasU nss ns) = true; rw [hu]; rfl) hp
                    rw [z] at hk
                    rw [← hu2, hu]
                    simp [iy]
                    exact ⟨by rw [sizeLine_eq]; omega, hk⟩
            · rintro s ⟨⟨d2, d6, d7, rfl⟩, hp⟩
              rw [rgT_len] at hp
              have hf : nss.find? (fun ns => !hasU nss ns) = none := List.find?_eq_none.mpr fun ns hn => by
                obtain ⟨i, hi⟩ := List.getElem?_of_mem hn
                rw [hp i ns (by have := (List.getElem?_eq_some_iff.mp hi).1; omega) hi]
                decide
              rw [hf] at hk
              simp
              have hk : k (.fr (match pairU nss nss with
                | some (a, b) => .tup [.str "union", tI a, tI b]
                | none => .non)) := hk
              refine for_ov (ts := rgT 0 nss.length) (fun n s => (∃ d2 d8, s = ⟨[.fr (.int many), .fr (.tup (nss.map tI)), d2, .fr (.lst (zs.map T.int)), .ow (.dk (mkv zs)), d5, d6, d7, d8, .un], none⟩) ∧ pairU nss nss = pairU nss (nss.drop n)) ?_ ⟨⟨_, _, rfl⟩, rfl⟩ ?_ ?_
              · intro k h
                simp
                exact ⟨by omega, h⟩
              · rintro n x s hx ⟨⟨d2, d8, rfl⟩, hp⟩ N hN
                obtain ⟨rfl, hn⟩ := rgT_get hx
                have h2 : nss[n]? = some nss[n] := List.getElem?_eq_getElem (by omega)
                generalize nss[n]'(by omega) = ns at h2
                have hmem := List.mem_of_getElem? h2
                rw [drop_at h2] at hp
                have hp : pairU nss nss = (match (nss.drop (n + 1)).find? fun b => decide (uni ns b ∉ nss) with
                  | some b => some (ns, b)
                  | none => pairU nss (nss.drop (n + 1))) := hp
                have iy : atI (nss.map tI) (n : Int) = some (tI ns) := atI_nat (by rw [List.getElem?_map, h2]; rfl)
                have iz : atI (zs.map T.int) (n : Int) = some (.int (maskZ ns)) := atI_nat (by rw [List.getElem?_map, zg h2]; rfl)
                simp
                refine for_ov (ts := rgT ((n : Int) + 1) nss.length) (fun m s => (∃ d8, s = ⟨[.fr (.int many), .fr (.tup (nss.map tI)), .fr (.int n), .fr (.lst (zs.map T.int)), .ow (.dk (mkv zs)), d5, d6, d7, d8, .un], none⟩) ∧ ∀ i ms, i < m → (nss.drop (n + 1))[i]? = some ms → decide (uni ns ms ∉ nss) = false) ?_ ⟨⟨_, rfl⟩, fun i ms h => absurd h (by omega)⟩ ?_ ?_
                · intro k h
                  simp
                  exact ⟨by omega, by omega, by omega, h⟩
                · rintro m x s hx2 ⟨⟨d8, rfl⟩, hq⟩ N2 hN2
                  obtain ⟨rfl, hm⟩ := rgT_get hx2
                  have h3 : nss[n + 1 + m]? = some nss[n + 1 + m] := List.getElem?_eq_getElem (by omega)
                  generalize nss[n + 1 + m]'(by omega) = ms at h3
                  have hmm := List.mem_of_getElem? h3
                  have h3d : (nss.drop (n + 1))[m]? = some ms := by rw [List.getElem?_drop]; exact h3
                  have ec : (n : Int) + 1 + (m : Int) = ((n + 1 + m : Nat) : Int) := by omega
                  rw [ec]
                  have iy2 : atI (nss.map tI) ((n + 1 + m : Nat) : Int) = some (tI ms) := atI_nat (by rw [List.getElem?_map, h3]; rfl)
                  have iz2 : atI (zs.map T.int) ((n + 1 + m : Nat) : Int) = some (.int (maskZ ms)) := atI_nat (by rw [List.getElem?_map, zg h3]; rfl)
                  have hu := mask_uni (nr ns hmem).1 (nr ms hmm).1 (nr ns hmem).2 (nr ms hmm).2
                  have hz := zm (x := uni ns ms) (fun q hq => (uni_mem.mp hq).elim ((nr ns hmem).1 q) ((nr ms hmm).1 q)) (uni_inc (nr ns hmem).2 (nr ms hmm).2)
                  rw [hu] at hz
                  have hz' : (Builtin.bitOr (maskZ ns) (maskZ ms) ∈ zs) ↔ (uni ns ms ∈ nss) := by simpa using hz
                  generalize ((n + 1 + m : Nat) : Int) = pl at iy2 iz2
                  simp [iz, iz2, has_mkv]
                  rw [hz']
                  by_cases cu : uni ns ms ∈ nss
                  · simp [cu]
                    refine hN2 _ ⟨⟨_, rfl⟩, fun i zs hi hz => ?_⟩
                    by_cases q : i < m
                    · exact hq i zs q hz
                    · have : i = m := by omega
                      subst this
                      rw [h3d] at hz
                      cases hz
                      exact decide_eq_false fun h => h cu
                  · simp [cu, iy, iy2]
                    refine ⟨by rw [sizeLine_eq]; omega, ?_⟩
                    rw [find_at h3d (p := fun b => decide (uni ns b ∉ nss)) (decide_eq_true cu) hq] at hp
                    rw [hp] at hk
                    exact hk
                · rintro s ⟨⟨d8, rfl⟩, hq⟩
                  rw [rgT_len] at hq
                  have hf : (nss.drop (n + 1)).find? (fun b => decide (uni ns b ∉ nss)) = none := List.find?_eq_none.mpr fun ms hm => by
                    obtain ⟨i, hi⟩ := List.getElem?_of_mem hm
                    have := (List.getElem?_eq_some_iff.mp hi).1
                    rw [List.length_drop] at this
                    rw [hq i ms (by omega) hi]
                    decide
                  rw [hf] at hp
                  simp
                  exact hN _ ⟨⟨_, _, rfl⟩, hp⟩
              · rintro s ⟨⟨d2, d8, rfl⟩, hp⟩
                rw [rgT_len, show ((nss.length : Int) - 0).toNat = nss.length by omega, List.drop_length] at hp
                rw [hp] at hk
                simp
                exact hk
          · refine .inr ⟨c1, by rw [sizeLine_eq]; omega, ?_⟩
            rw [if_pos c1] at hk
            exact hk
        · refine .inr ⟨c0, by rw [sizeLine_eq]; omega, ?_⟩
          rw [if_pos c0] at hk
          exact hk
  | _ =>
    simp [isTup]
    exact ⟨by rw [sizeLine_eq]; omega, hk⟩
end Pf

namespace Pf
open PySem PySem.Spec PyProof.Rows L2 TL
def Shape (f : T) : Prop := f = .non ∨ ∃ (w : Str) (nss : List (List Int)), f = .tup (.str w :: nss.map tI) ∧ nss.length ≤ 1000 ∧ ∀ ns ∈ nss, ns.length ≤ 1000
theorem pairU_mem {all : List (List Int)} : ∀ {l : List (List Int)} {x y : List Int}, pairU all l = some (x, y) → x ∈ l ∧ y ∈ l
  | [], _, _, h => by cases h
  | z :: l, x, y, h => by
    have h : (match l.find? fun b => decide (uni z b ∉ all) with
      | some b => some (z, b)
      | none => pairU all l) = some (x, y) := h
    cases e : l.find? fun b => decide (uni z b ∉ all) with
    | some b =>
      rw [e] at h
      cases h
      exact ⟨List.mem_cons_self, List.mem_cons_of_mem _ (List.mem_of_find?_eq_some e)⟩
    | none =>
      rw [e] at h
      obtain ⟨h1, h2⟩ := pairU_mem h
      exact ⟨List.mem_cons_of_mem _ h1, List.mem_cons_of_mem _ h2⟩
theorem shape_fault {many : Nat} {nss : List (List Int)} (h : ∀ ns ∈ nss, ns.length ≤ 1000) : Shape (fault many nss) := by
  unfold fault
  split
  · exact .inr ⟨_, [], rfl, by simp, fun _ h => by simp at h⟩
  · split
    · exact .inr ⟨_, [], rfl, by simp, fun _ h => by simp at h⟩
    · split
      · rename_i ns e
        exact .inr ⟨_, [ns], rfl, by simp, fun x hx => by
          rw [List.mem_singleton.mp hx]
          exact h _ (List.mem_of_find?_eq_some e)⟩
      · split
        · rename_i x y e
          obtain ⟨h1, h2⟩ := pairU_mem e
          refine .inr ⟨_, [x, y], rfl, by simp, fun z hz => ?_⟩
          simp at hz
          rcases hz with rfl | rfl
          · exact h _ h1
          · exact h _ h2
        · exact .inl rfl
theorem shape_faultT {many : Nat} (m6 : many ≤ 6) (t : T) : Shape (faultT many t) := by
  unfold faultT
  by_cases hs : setsB ((many : Int) - 1) t = true
  · rw [if_pos hs]
    cases t with
    | tup us =>
      obtain ⟨e1, e2⟩ := sets_tI (show setsF ((many : Int) - 1) none us = true from hs)
      refine shape_fault fun ns hn => ?_
      have z := e2 ns hn
      have := inc_len' (a := 0) (m := (many : Int)) (by omega) z.2 fun r hr => by
        have := z.1 r hr
        omega
      omega
    | _ => cases hs
  · rw [if_neg hs]
    exact .inr ⟨_, [], rfl, by simp, fun _ h => by simp at h⟩
theorem small_of {t : T} (h : small2 t) : smallT t := by
  cases t with
  | tup ts => exact h.1
  | _ => trivial
def x_gh (T : XS) : XS := xSeq (xSet 2 (xCallT P__law_family (xCons (xVar 0) (xCons (xVar 1) (xCons (xOp ixR (xFz (xLst (xCons (xC (.int 1)) (xCons (xC (.int 2)) (xCons (xC (.int 3)) (xCons (xC (.int 6)) (xNil))))))) (xCallT P__law_draw (xCons (xVar 0) (xCons (xC (.int 4)) (xNil))))) (xNil))))))
  (xSeq (xIfS (xB (xOp (isX true) (xCall P_family_fault (xCons (xVar 1) (xCons (xVar 2) (xNil)))) (xC .non))) (xRet (xC (.bl false))) (xNext))
  (xSeq (xSetW 3 (xCallTN P__law_bent (xCons (xVar 0) (xCons (xVar 1) (xCons (xVar 2) (xNil))))))
  (xSeq (xSet 4 (xCallT P__law_draw (xCons (xVar 0) (xCons (xCB lenR (xCons (xVar 2) xNil)) (xNil)))))
  (xSeq (xFor (xiR1 (xCons (xC (.int 6)) (xNil))) (xgN 5) (xSeq (xSet 6 (xOp modR (xCB intCR (xCons (xOp addR (xVar 4) (xOp mulR (xVar 5) (xC (.int 5)))) xNil)) (xCB lenR (xCons (xVar 2) xNil))))
  (xSeq (xSet 7 (xCall P__law_fault (xCons (xVar 1) (xCons (xOp addR (xSl slR (xVar 2) (xNo) (xPart (xVar 6))) (xSl slR (xVar 2) (xPart (xOp addR (xVar 6) (xC (.int 1)))) (xNo))) (xNil)))))
  (xIfS (xAnd (xB (xOp (isX true) (xVar 7) (xC .non))) (xB (xOp (eqR false) (xOp ixR (xVar 7) (xC (.int 0))) (xC (.str "union"))))) (xSeq (xDrop (xApp 3 (xOp addR (xSl slR (xVar 2) (xNo) (xPart (xVar 6))) (xSl slR (xVar 2) (xPart (xOp addR (xVar 6) (xC (.int 1)))) (xNo)))))
  (xBreak)) (xNext)))))
  T))))
def x_gt : XS := (xFreeze 3 (xSeq (xFor (xiL (xVar 3)) (xgN 8) (xIfS (xNot (xTru (xCall P__law_same (xCons (xCall P_family_fault (xCons (xVar 1) (xCons (xVar 8) (xNil)))) (xCons (xCall P__law_fault (xCons (xVar 1) (xCons (xVar 8) (xNil)))) (xNil)))))) (xRet (xC (.bl false))) (xNext)))
  (xRet (xOp (isX false) (xCall P_family_fault (xCons (xVar 1) (xCons (xVar 2) (xNil)))) (xC .non)))))
theorem families_is : x__law_families = x_gh x_gt := rfl
def GS (many : Nat) (a : Addr) (nss : List (List Int)) (things : List T) (tp : List T) (d4 d5 d6 d7 d8 : TL.Slot) : S := ⟨[.fr (.adr a), .fr (.int many), .fr (.tup (nss.map tI)), .ow (.lst things), d4, d5, d6, d7, d8], some (a, tp)⟩
theorem fam_ok (nss : List (List Int)) : T.oks (nss.map tI) = true := oks_all.mpr fun t ht => by
  obtain ⟨ns, _, rfl⟩ := List.mem_map.mp ht
  exact oks_ints ns
theorem r_gt {many b : Nat} {a : Addr} {nss : List (List Int)} {things tp : List T} {d4 d5 d6 d7 d8 : TL.Slot} {k : Rt → List T → Prop} (m6 : many ≤ 6) (f : Fam many nss) (t1 : T.oks things = true) (t2 : ∀ t ∈ things, small2 t) (hk : k (.fr (.bl true)) tp) : x_gt (enT a k) (GS many a nss things tp d4 d5 d6 d7 d8) := by
  simp only [x_gt, GS]
  refine ⟨things, rfl, ?_⟩
  simp
  refine for_ov (ts := things) (fun n s => ∃ d8, s = ⟨[.fr (.adr a), .fr (.int many), .fr (.tup (nss.map tI)), .fr (.lst things), d4, d5, d6, d7, d8], some (a, tp)⟩) ?_ ⟨_, rfl⟩ ?_ ?_
  · intro k h
    simp
    exact h
  · rintro n x s hx ⟨d8, rfl⟩ N hN
    have okx := oks_at t1 hx
    have sx := t2 x (List.mem_of_getElem? hx)
    simp
    refine ⟨many, x, rfl, okx, small_of sx, m6, ?_⟩
    simp
    refine ⟨many, x, rfl, okx, sx, m6, ?_⟩
    simp
    refine ⟨_, rfl, shape_faultT m6 x, ?_⟩
    simp
    exact hN _ ⟨_, rfl⟩
  · rintro s ⟨d8, rfl⟩
    simp
    refine ⟨many, _, rfl, fam_ok nss, by have := f.len; simp [smallT]; omega, m6, ?_⟩
    rw [f.fl]
    simp [T.isNon]
    exact hk
theorem r_gh (Tl : XS) : ∀ (a : Addr) ts tp k (many : Nat) (b : Nat), ts = [T.int many] → 1 ≤ many → many ≤ 6 → TapeOk b tp → b + 200 ≤ Mx →
    (∀ nss things tp' d4 d5 d6 d7 d8, Fam many nss → TapeOk (b + 70) tp' → T.oks things = true → (∀ t ∈ things, small2 t) → Tl (enT a k) (GS many a nss things tp' d4 d5 d6 d7 d8)) → x_gh Tl (enT a k) (stT 9 a tp ts) := by
  rintro a ts tp k many b rfl m1 m6 htp hb hT
  have Mx' : Mx = 1099511627776 := rfl
  simp [x_gh]
  refine ⟨by rw [sizeLine_eq]; omega, 4, b, rfl, htp, by omega, by omega, fun q1 tp1 a1 b1 ht1 => ?_⟩
  obtain ⟨c, hc, c0, c1⟩ : ∃ c : Int, atI [T.int 1, T.int 2, T.int 3, T.int 6] q1 = some (.int c) ∧ 1 ≤ c ∧ c ≤ 6 := by
    rcases at4 (x := T.int 1) (y := T.int 2) (z := T.int 3) (w := T.int 6) a1 (by omega) with e | e | e | e
    · exact ⟨_, e, by omega, by omega⟩
    · exact ⟨_, e, by omega, by omega⟩
    · exact ⟨_, e, by omega, by omega⟩
    · exact ⟨_, e, by omega, by omega⟩
  simp [hc]
  refine ⟨many, c, b + 1, rfl, m1, m6, c0, c1, ht1, by omega, fun nss tp2 f ht2 => ?_⟩
  have nl := f.len
  have n1 : 1 ≤ nss.length := (List.getElem?_eq_some_iff.mp f.h0).1
  simp
  refine ⟨many, _, rfl, fam_ok nss, by simp [smallT]; omega, m6, ?_⟩
  rw [f.fl]
  simp [T.isNon]
  refine ⟨many, nss, b + 41, rfl, m1, m6, f, ht2, by omega, fun things tp3 t1 t2 t3 ht3 => ?_⟩
  simp
  refine ⟨(nss.length : Int), b + 61, rfl, ht3.mono (by omega), by omega, by omega, fun first tp4 a4 b4 ht4 => ?_⟩
  simp
  refine for_ov (ts := rgT 0 6) (fun n s => ∃ d5 d6 d7, s = ⟨[.fr (.adr a), .fr (.int many), .fr (.tup (nss.map tI)), .ow (.lst things), .fr (.int first), d5, d6, d7, .un], some (a, tp4)⟩) ?_ ⟨_, _, _, rfl⟩ ?_ ?_
  · intro k h
    simp
    exact h
  · rintro n x s hx ⟨d5, d6, d7, rfl⟩ N hN
    obtain ⟨rfl, hn⟩ := rgT_get hx
    simp
    refine ⟨mul_ok 3 3 (by omega) (by omega) (by omega) (by omega) (by omega) (by omega) (by omega), by omega, ?_⟩
    generalize (first + (n : Int) * 5) % (nss.length : Int) = at'
    have cl : ∀ lo hi, (cut (nss.map tI) lo hi).length ≤ nss.length := fun lo hi => by
      have := (cut_sub (nss.map tI) lo hi).length_le
      rwa [List.length_map] at this
    have h1 := cl none (some at')
    have h2 := cl (some (at' + 1)) none
    have okc : ∀ lo hi, T.oks (cut (nss.map tI) lo hi) = true := fun lo hi => oks_sub (cut_sub _ lo hi) (fam_ok nss)
    have smc : small2 (.tup (cut (nss.map tI) none (some at') ++ cut (nss.map tI) (some (at' + 1)) none)) := by
      refine ⟨by rw [List.length_append]; omega, fun t ht => ?_⟩
      have : t ∈ nss.map tI := (List.mem_append.mp ht).elim (fun q => (cut_sub _ _ _).subset q) fun q => (cut_sub _ _ _).subset q
      obtain ⟨ns, hns, rfl⟩ := List.mem_map.mp this
      have := (f.hr ns hns).2
      simp [smallT]
      omega
    refine ⟨by rw [sizeLine_eq]; omega, many, _, rfl, by simp [okc], smc, m6, ?_⟩
    have sh := shape_faultT m6 (.tup (cut (nss.map tI) none (some at') ++ cut (nss.map tI) (some (at' + 1)) none))
    generalize faultT many (.tup (cut (nss.map tI) none (some at') ++ cut (nss.map tI) (some (at' + 1)) none)) = fl at sh
    rcases sh with rfl | ⟨w, ws, rfl, _, _⟩
    · simp [T.isNon]
      exact hN _ ⟨_, _, _, rfl⟩
    · have i0 : atI (T.str w :: ws.map tI) 0 = some (.str w) := atI_of (by omega) rfl
      simp [T.isNon, i0]
      by_cases cw : w = "union"
      · subst cw
        simp
        refine ⟨by rw [sizeLine_eq]; omega, by rw [sizeLine_eq]; omega, ?_⟩
        exact hT nss (things ++ [_]) tp4 _ _ _ _ _ f (ht4.mono (by omega)) (by simp [t1, okc]) fun t ht => (List.mem_append.mp ht).elim (t2 t) fun q => by
          rw [List.mem_singleton.mp q]
          exact smc
      · simp [cw]
        exact hN _ ⟨_, _, _, rfl⟩
  · rintro s ⟨d5, d6, d7, rfl⟩
    exact hT nss things tp4 _ _ _ _ _ f (ht4.mono (by omega)) t1 t2
theorem r__law_families : ∀ a ts tp k, P__law_families ts tp k → x__law_families (enT a k) (stT 9 a tp ts) := by
  rintro a ts tp k ⟨many, b, rfl, m1, m6, htp, hb, hk⟩
  rw [families_is]
  exact r_gh x_gt a _ tp k many b rfl m1 m6 htp hb fun nss things tp' d4 d5 d6 d7 d8 f tk t1 t2 => r_gt (b := b) m6 f t1 t2 (hk tp' (tk.mono (by omega)))
end Pf

namespace TL
open PySem PySem.Spec PyProof.Rows L2
theorem dats_tIs (nss : List (List Int)) : T.dats (nss.map tI) = nss.map fun ns => PyData.tuple (ns.map PyData.int) := by
  induction nss with
  | nil => rfl
  | cons ns r ih =>
    rw [List.map_cons, List.map_cons, T.dats, ih]
    show PyData.tuple (T.dats (ns.map T.int)) :: _ = _
    rw [dats_ints]
theorem lay_tIs (nss : List (List Int)) : PyData.canLayAll0 (nss.map fun ns => PyData.tuple (ns.map PyData.int)) = true := by
  induction nss with
  | nil => rfl
  | cons ns r ih =>
    rw [List.map_cons, PyData.canLayAll0, ih]
    simp only [PyData.canLay0, lay_ints]
    rfl
theorem depth_tIs (nss : List (List Int)) : PyData.depthAll (nss.map fun ns => PyData.tuple (ns.map PyData.int)) ≤ 2 := by
  induction nss with
  | nil => simp [PyData.depthAll]
  | cons ns r ih =>
    have := depth_ints ns
    simp only [List.map_cons, PyData.depthAll, PyData.depth]
    omega
theorem sures_tIs (nss : List (List Int)) : T.sures (nss.map tI) = true := by
  induction nss with
  | nil => rfl
  | cons ns r ih =>
    rw [List.map_cons, T.sures, ih, sure_tI]
    rfl
theorem shaped_tIs (nss : List (List Int)) : SeqAt.shaped (T.lst (nss.map tI)).dat = true := by
  show SeqAt.shaped (.list (T.dats (nss.map tI))) = true
  rw [dats_tIs]
  have h := depth_tIs nss
  show (PyData.canLay0 (.list _) && decide (PyData.depth (.list _) ≤ 64)) = true
  rw [Bool.and_eq_true]
  refine ⟨?_, ?_⟩
  · simp only [PyData.canLay0]
    exact lay_tIs nss
  · refine decide_eq_true ?_
    simp only [PyData.depth]
    omega
theorem any_tIs (nss : List (List Int)) (x : List Int) : ((T.dats (nss.map tI)).any fun z => PyData.eqv z (tI x).dat) = decide (x ∈ nss) := by
  induction nss with
  | nil => rfl
  | cons ns r ih =>
    rw [List.map_cons, T.dats, List.any_cons, ih, eqv_tI]
    by_cases e : x = ns
    · subst e
      simp
    · have e' : ¬ ns = x := fun h => e h.symm
      simp [e, e']
@[simp] theorem inR_tt {n : Bool} {x : List Int} {nss : List (List Int)} {z : T} : TL.inR n (.tup (x.map T.int)) (.tup (nss.map tI)) z ↔ z = .bl (n ^^ decide (x ∈ nss)) := by
  constructor
  · intro h
    rcases h with h | h
    · cases h with
      | tup hx h => cases hx
    · obtain ⟨ts, h1 | h1, h2⟩ := inD_z h
      · injection h1 with h1
        rw [h2, ← h1, any_tIs]
      · cases h1
  · intro e
    subst e
    rw [← any_tIs]
    exact .inr (.tup (sure_tI x) (sures_tIs nss) (shaped_tI x) (shaped_tIs nss))
theorem inR_tl {n : Bool} {x : List Int} {nss : List (List Int)} {z : T} : TL.inR n (.tup (x.map T.int)) (.lst (nss.map tI)) z ↔ z = .bl (n ^^ decide (x ∈ nss)) := by
  constructor
  · intro h
    rcases h with h | h
    · cases h with
      | lst hx h => cases hx
    · obtain ⟨ts, h1 | h1, h2⟩ := inD_z h
      · cases h1
      · injection h1 with h1
        rw [h2, ← h1, any_tIs]
  · intro e
    subst e
    rw [← any_tIs]
    exact .inr (.lst (sure_tI x) (sures_tIs nss) (shaped_tI x) (shaped_tIs nss))
theorem sortTR_l {nss : List (List Int)} {o : Ob} (h0 : nss[0]? = some []) : sortTR [.lst (nss.map tI)] o ↔ o = .lst ((srtL nss).map tI) := by
  constructor
  · intro h
    generalize hx : [T.lst (nss.map tI)] = l at h
    cases h with
    | @mk ms h1 =>
      injection hx with hx
      injection hx with hx
      rw [tIs_inj hx]
  · intro e
    subst e
    exact .mk h0
end TL
namespace Pf
open PySem PySem.Spec PyProof.Rows L2 TL
@[simp] theorem eqR_nil {n : Bool} {x : List Int} {z : T} : TL.eqR n (.tup (x.map T.int)) (.tup []) z ↔ z = .bl (n ^^ decide (x = [])) := by
  have := eqR_t (n := n) (ns := x) (ms := []) (z := z)
  simpa using this
theorem inL4 {n : Bool} {x a b c : List Int} {z : T} : TL.inR n (.tup (x.map T.int)) (.lst [T.tup [], tI a, tI b, tI c]) z ↔ z = .bl (n ^^ decide (x ∈ [[], a, b, c])) := inR_tl (nss := [[], a, b, c])
theorem r__law_bent : ∀ a ts tp k, P__law_bent ts tp k → x__law_bent (enT a k) (stT 12 a tp ts) := by
  rintro a ts tp k ⟨many, nss, b, rfl, m1, m6, f, htp, hb, hk⟩
  have Mx' : Mx = 1099511627776 := rfl
  have nl := f.len
  have n1 : 1 ≤ nss.length := (List.getElem?_eq_some_iff.mp f.h0).1
  have cl : ∀ lo hi, (cut (nss.map tI) lo hi).length ≤ nss.length := fun lo hi => by
    have := (cut_sub (nss.map tI) lo hi).length_le
    rwa [List.length_map] at this
  have okc : ∀ lo hi, T.oks (cut (nss.map tI) lo hi) = true := fun lo hi => oks_sub (cut_sub _ lo hi) (fam_ok nss)
  have okF := fam_ok nss
  have smt : ∀ t ∈ nss.map tI, smallT t := fun t ht => by
    obtain ⟨ns, hn, rfl⟩ := List.mem_map.mp ht
    have := (f.hr ns hn).2
    simp [smallT]
    omega
  have sms : ∀ {ts : List T}, (∀ t ∈ ts, smallT t) → ts.length ≤ 1000 → small2 (.tup ts) := fun h1 h2 => ⟨h2, h1⟩
  have smc : ∀ lo hi, ∀ t ∈ cut (nss.map tI) lo hi, smallT t := fun lo hi t ht => smt t ((cut_sub _ _ _).subset ht)
  have sma : ∀ {xs ys : List T}, (∀ t ∈ xs, smallT t) → (∀ t ∈ ys, smallT t) → ∀ t ∈ xs ++ ys, smallT t := fun h1 h2 t ht => (List.mem_append.mp ht).elim (h1 t) (h2 t)
  have c1 : ∀ lo hi lo' hi', (cut (nss.map tI) lo hi).length + (cut (nss.map tI) lo' hi').length ≤ 16777216 := fun lo hi lo' hi' => by
    have h1 := cl lo hi
    have h2 := cl lo' hi'
    omega
  have c2 : ∀ lo hi lo' hi', small2 (.tup (cut (nss.map tI) lo hi ++ cut (nss.map tI) lo' hi')) := fun lo hi lo' hi' => sms (sma (smc lo hi) (smc lo' hi')) (by
    have h1 := cl lo hi
    have h2 := cl lo' hi'
    rw [List.length_append]
    omega)
  have fl : ∀ p : List Int → Bool, T.oks ((nss.filter p).map tI) = true ∧ small2 (.tup ((nss.filter p).map tI)) := fun p => ⟨fam_ok _, sms (fun t ht => by
    obtain ⟨ns, hn, rfl⟩ := List.mem_map.mp ht
    exact smt _ (List.mem_map_of_mem ((List.mem_filter.mp hn).1))) (by
    rw [List.length_map]
    have := List.length_filter_le p nss
    omega)⟩
  unfold x__law_bent
  refine seq_start ?_
  simp [-e_seq]
  refine ⟨(nss.length : Int), b, rfl, htp, by omega, by omega, fun at' tp1 a1 b1 ht1 => ?_⟩
  simp [-e_seq]
  refine seq_start ?_
  simp [-e_seq]
  refine ⟨(nss.length : Int), b + 1, rfl, ht1, by omega, by omega, fun ot tp2 a2 b2 ht2 => ?_⟩
  simp [-e_seq]
  have hat := List.getElem?_eq_getElem (l := nss) (i := at'.toNat) (by omega)
  have hot := List.getElem?_eq_getElem (l := nss) (i := ot.toNat) (by omega)
  generalize nss[at'.toNat]'(by omega) = fa at hat
  generalize nss[ot.toNat]'(by omega) = fo at hot
  have iat : atI (nss.map tI) at' = some (tI fa) := atI_of a1 (by rw [List.getElem?_map, hat]; rfl)
  have iot : atI (nss.map tI) ot = some (tI fo) := atI_of a2 (by rw [List.getElem?_map, hot]; rfl)
  have fa6 := (f.hr fa (List.mem_of_getElem? hat)).2
  have fo6 := (f.hr fo (List.mem_of_getElem? hot)).2
  refine seq_lc ?_
  simp [-e_seq, c1, sizeLine_eq]
  refine seq_start ?_
  simp [-e_seq]
  refine ⟨⟨by omega, by omega, by omega, by omega, by omega⟩, ?_⟩
  rw [rg_full]
  have ffl := full_len many
  have fnd := full_nodup many
  generalize hfm : full many = fm at ffl fnd
  have cc1 : ∀ lo hi, small2 (.tup (cut (nss.map tI) lo hi)) := fun lo hi => sms (smc lo hi) (by have := cl lo hi; omega)
  have hL : Good 4 [T.tup (cut (nss.map tI) none (some at') ++ cut (nss.map tI) (some (at' + 1)) none), T.tup (cut (nss.map tI) (some 1) none), T.tup (cut (nss.map tI) none (some (-1))), T.tup (cut (cut (nss.map tI) (some 1) none) none (some (-1)))] := by
    have okcc : T.oks (cut (cut (nss.map tI) (some 1) none) none (some (-1))) = true := oks_sub (cut_sub _ _ _) (okc _ _)
    refine ⟨by simp [okc, okcc], fun t ht => ?_, rfl⟩
    simp at ht
    rcases ht with rfl | rfl | rfl | rfl
    · exact c2 _ _ _ _
    · exact cc1 _ _
    · exact cc1 _ _
    · refine sms (fun t ht => smc _ _ t ((cut_sub _ _ _).subset ht)) ?_
      have h1 := (cut_sub (cut (nss.map tI) (some 1) none) none (some (-1))).length_le
      have h2 := cl (some 1) none
      omega
  refine app_gd hL rfl (by omega) (fun R hR => ?_) (fun L hL => ?_)
  · simp
    refine lc_map tI toI (fun ns => toI_tI ns) nss (fun ns => decide (ns ≠ fm)) (fun ns => tI ns) ?_ (by simp) (by simp []) (sz1000 (by omega)) ?_ ?_ ?_
    · intro k h
      simp
      exact h
    · intro ns hn
      simp
    · intro ns hn _
      simp
    · simp
      exact hR _ (fl _).1 (fl _).2
  simp only [e_put, List.set_cons_succ, List.set_cons_zero]
  refine app_gd hL rfl (by omega) (fun R hR => ?_) (fun L hL => ?_)
  · simp
    refine lc_map tI toI (fun ns => toI_tI ns) nss (fun ns => decide (ns ≠ fm) && decide (ns ≠ [])) (fun ns => tI ns) ?_ (by simp) (by simp []) (sz1000 (by omega)) ?_ ?_ ?_
    · intro k h
      simp
      exact h
    · intro ns hn
      by_cases c : ns = fm <;> by_cases d : ns = [] <;> simp [c, d, eqR_nil] <;> first | exact Classical.em _ | omega
    · intro ns hn _
      simp
    · simp
      exact hR _ (fl _).1 (fl _).2
  simp only [e_put, List.set_cons_succ, List.set_cons_zero]
  refine app_gd hL rfl (by omega) (fun R hR => ?_) (fun L hL => ?_)
  · simp
    refine lc_map tI toI (fun ns => toI_tI ns) nss (fun ns => decide (ns ≠ fa) && decide (ns ≠ fo)) (fun ns => tI ns) ?_ (by simp) (by simp []) (sz1000 (by omega)) ?_ ?_ ?_
    · intro k h
      simp
      exact h
    · intro ns hn
      by_cases c : ns = fa <;> by_cases d : ns = fo <;> simp [c, d, iat, iot] <;> first | exact Classical.em _ | omega
    · intro ns hn _
      simp
    · simp
      exact hR _ (fl _).1 (fl _).2
  simp only [e_put, List.set_cons_succ, List.set_cons_zero]
  refine app_gd hL rfl (by omega) (fun R hR => ?_) (fun L hL => ?_)
  · simp
    refine lc_map tI toI (fun ns => toI_tI ns) nss (fun ns => decide (ns ∈ [[], fm, fa, fo])) (fun ns => tI ns) ?_ (by simp) (by simp []) (sz1000 (by omega)) ?_ ?_ ?_
    · intro k h
      simp
      exact h
    · intro ns hn
      simp [iat, iot, inL4, sizeLine_eq]
    · intro ns hn _
      simp
    · simp
      exact hR _ (fl _).1 (fl _).2
  simp only [e_put, List.set_cons_succ, List.set_cons_zero]
  refine app_gd hL rfl (by omega) (fun R hR => ?_) (fun L hL => ?_)
  · simp
    refine lc_map tI toI (fun ns => toI_tI ns) nss (fun ns => decide (ns.length ≠ 1) || decide (ns = fa)) (fun ns => tI ns) ?_ (by simp) (by simp []) (sz1000 (by omega)) ?_ ?_ ?_
    · intro k h
      simp
      exact h
    · intro ns hn
      by_cases c : ns.length = 1 <;> by_cases d : ns = fa <;> simp [c, d, iat] <;> first | exact Classical.em _ | omega
    · intro ns hn _
      simp
    · simp
      exact hR _ (fl _).1 (fl _).2
  simp only [e_put, List.set_cons_succ, List.set_cons_zero]
  refine seq_start ?_
  simp [-e_seq]
  refine ⟨⟨by omega, by omega, by omega, by omega, by omega⟩, ?_⟩
  rw [rg_full, hfm]
  refine ⟨fm, 0, b + 2, rfl, fnd, by omega, by omega, by omega, ht2, by omega, fun ex tp3 ei es _ ht3 => ?_⟩
  simp [-e_seq]
  have ex6 : ex.length ≤ 6 := by
    have := nodup_len (inc_nodup ei) es
    omega
  refine seq_gen (fun s => ∃ (n : Nat) (L : List T), n ≤ 30 ∧ Good n L ∧ s = ⟨[.fr (.adr a), .fr (.int many), .fr (.tup (nss.map tI)), .fr (.int at'), .fr (.int ot), .ow (.lst L), .fr (tI fm), .fr (tI ex), .un, .un, .un, .un], some (a, tp3)⟩) (fun N hN => ?_) ?_
  · simp
    by_cases c : ex ∈ nss
    · simp [c]
      exact hN _ ⟨9, L, by omega, hL, rfl⟩
    · have hs : ∀ o, sortTR [.lst (nss.map tI ++ [tI ex])] o ↔ o = .lst ((srtL (nss ++ [ex])).map tI) := fun o => by
        rw [snoc_tI, sortTR_l (by rw [List.getElem?_append_left (by omega)]; exact f.h0)]
      simp [c, hs, sizeLine_eq]
      have hl9 := hL.2.2
      have sl : (srtL (nss ++ [ex])).length = nss.length + 1 := by rw [(srtL_perm _).length_eq, List.length_append]; rfl
      refine ⟨by omega, by omega, hN _ ⟨10, L ++ [_], by omega, hL.snoc (t := .tup ((srtL (nss ++ [ex])).map tI)) (fam_ok _) (sms (fun t ht => ?_) (by rw [List.length_map, sl]; omega)), rfl⟩⟩
      obtain ⟨ns, hns, rfl⟩ := List.mem_map.mp ht
      rcases List.mem_append.mp ((srtL_perm _).mem_iff.mp hns) with h | h
      · exact smt _ (List.mem_map_of_mem h)
      · rw [List.mem_singleton.mp h]
        simp [smallT]
        omega
  · rintro s ⟨n, L, hn, hL, rfl⟩
    refine seq_lc ?_
    simp [-e_seq]
    have xa : ixN nss.length at' = some at'.toNat := ixN_of a1 (by omega)
    have xo : ixN nss.length ot = some ot.toNat := ixN_of a2 (by omega)
    rw [e_seq]
    simp [-e_seq, iot, xa]
    rw [e_seq]
    simp [-e_seq, iat, xo]
    have esw : ((nss.map tI).set at'.toNat (tI fo)).set ot.toNat (tI fa) = ((nss.set at'.toNat fo).set ot.toNat fa).map tI := by rw [List.map_set, List.map_set]
    rw [esw]
    have key : T.oks (((nss.set at'.toNat fo).set ot.toNat fa).map tI) = true ∧ small2 (.tup (((nss.set at'.toNat fo).set ot.toNat fa).map tI)) := ⟨fam_ok _, sms (fun t ht => by
      obtain ⟨ns, hns, rfl⟩ := List.mem_map.mp ht
      rcases List.mem_or_eq_of_mem_set hns with h | h
      · rcases List.mem_or_eq_of_mem_set h with h | h
        · exact smt _ (List.mem_map_of_mem h)
        · rw [h]
          simp [smallT]
          omega
      · rw [h]
        simp [smallT]
        omega) (by rw [List.length_map, List.length_set, List.length_set]; omega)⟩
    generalize (nss.set at'.toNat fo).set ot.toNat fa = sw at key
    refine app_gd hL rfl (by omega) (fun R hR => ?_) (fun L hL => ?_)
    · simp
      exact hR _ key.1 key.2
    simp only [e_put, List.set_cons_succ, List.set_cons_zero]
    refine app_gd hL rfl (by omega) (fun R hR => ?_) (fun L hL => ?_)
    · simp [c1, sizeLine_eq]
      exact hR _ (by simp [okc]) (c2 _ _ _ _)
    simp only [e_put, List.set_cons_succ, List.set_cons_zero]
    refine app_gd hL rfl (by omega) (fun R hR => ?_) (fun L hL => ?_)
    · simp
      have key : small2 (.tup (nss.map tI).reverse) := sms (fun t ht => smt t (List.mem_reverse.mp ht)) (by rw [List.length_reverse, List.length_map]; omega)
      simpa using hR (.tup (nss.map tI).reverse) (by simp [okF]) key
    simp only [e_put, List.set_cons_succ, List.set_cons_zero]
    have cf : ∀ lo hi, (cut (fa.map T.int) lo hi).length ≤ fa.length := fun lo hi => by
      have := (cut_sub (fa.map T.int) lo hi).length_le
      rwa [List.length_map] at this
    refine seq_gen (fun s => ∃ (n : Nat) (L : List T) (d9 : TL.Slot), n ≤ 45 ∧ Good n L ∧ (∀ c, d9 ≠ .ow c) ∧ s = ⟨[.fr (.adr a), .fr (.int many), .fr (.tup (nss.map tI)), .fr (.int at'), .fr (.int ot), .ow (.lst L), .fr (tI fm), .fr (tI ex), .fr (.lst (sw.map tI)), d9, .un, .un], some (a, tp3)⟩) (fun N hN => ?_) ?_
    · refine for_ov (ts := [.lst (fa.map T.int), .tup (fa.map T.int).reverse, .tup (fa.map T.int ++ [.int many]), .tup (.int (-1) :: fa.map T.int), .non, .int at', .tup (fa.map T.int ++ cut (fa.map T.int) (some (-1)) none)]) (fun m s => ∃ (L : List T) (d9 : TL.Slot), Good (n + 3 + m) L ∧ (∀ c, d9 ≠ .ow c) ∧ s = ⟨[.fr (.adr a), .fr (.int many), .fr (.tup (nss.map tI)), .fr (.int at'), .fr (.int ot), .ow (.lst L), .fr (tI fm), .fr (tI ex), .fr (.lst (sw.map tI)), d9, .un, .un], some (a, tp3)⟩) ?_ ⟨L, .un, hL, fun _ => un_ow, rfl⟩ ?_ ?_
      · intro k h
        have h3 := cf (some (-1)) none
        simp [iat, sizeLine_eq]
        first
          | exact ⟨by omega, by omega, by omega, h⟩
          | exact ⟨by omega, by omega, h⟩
          | trace_state
      · rintro m x s hx ⟨L, d9, hL, h9, rfl⟩ N2 hN2
        have hm : m < 7 := by
          have := (List.getElem?_eq_some_iff.mp hx).1
          simpa using this
        have okx : x.ok = true := oks_at (by simp [T.oks]) hx
        have h3 := cf (some (-1)) none
        have smx : smallT x := by
          have hx' := List.mem_of_getElem? hx
          simp at hx'
          rcases hx' with h | h | h | h | h | h | h <;> subst h <;> simp [smallT] <;> omega
        have h4 := cl none (some at')
        have h5 := cl (some (at' + 1)) none
        have hl := hL.2.2
        simp [sizeLine_eq]
        refine ⟨by omega, by omega, by omega, hN2 _ ⟨L ++ [_], .fr x, hL.snoc (t := .tup (cut (nss.map tI) none (some at') ++ x :: cut (nss.map tI) (some (at' + 1)) none)) (by simp [okc, okx]) (sms (fun t ht => ?_) (by simp; omega)), fun _ => fr_ow, rfl⟩⟩
        rcases List.mem_append.mp ht with q | q
        · exact smc _ _ t q
        · rcases List.mem_cons.mp q with q | q
          · rw [q]
            exact smx
          · exact smc _ _ t q
      · rintro s ⟨L, d9, hL, h9, rfl⟩
        exact hN _ ⟨_, L, d9, by simp; omega, hL, h9, rfl⟩
    · rintro s ⟨n, L, d9, hn, hL, h9, rfl⟩
      refine app_gd hL rfl (by omega) (fun R hR => ?_) (fun L hL => ?_)
      · simp
        refine lc_all tI toI (fun ns => toI_tI ns) nss (fun ns => T.tup (ns.map (fun r => if r = 1 then T.bl true else T.int r))) ?_ (by simp) (by simp) (sz1000 (by omega)) ?_ ?_
        · intro k h
          simp
          exact h
        · intro ns hn
          have h6 := (f.hr ns hn).2
          simp
          refine lc_all T.int toI1 (fun _ => rfl) ns (fun r => if r = 1 then T.bl true else T.int r) ?_ (by simp) (by simp) (sz1000 (by omega)) ?_ ?_
          · intro k h
            simp
            exact h
          · intro r _
            by_cases c : r = 1 <;> simp [c]
          · simp
        · simp
          refine hR _ (oks_all.mpr fun t ht => ?_) (sms (fun t ht => ?_) (by rw [List.length_map]; omega))
          · obtain ⟨ns, hns, rfl⟩ := List.mem_map.mp ht
            exact oks_mapf fun r _ => by by_cases c : r = 1 <;> simp [c]
          · obtain ⟨ns, hns, rfl⟩ := List.mem_map.mp ht
            have := (f.hr ns hns).2
            simp [smallT]
            omega
      simp only [e_put, List.set_cons_succ, List.set_cons_zero]
      refine app_gd hL rfl (by omega) (fun R hR => ?_) (fun L hL => ?_)
      · simp
        refine lc_all tI toI (fun ns => toI_tI ns) nss (fun ns => T.tup (ns.map (fun r => if r = 0 then T.bl false else T.int r))) ?_ (by simp) (by simp) (sz1000 (by omega)) ?_ ?_
        · intro k h
          simp
          exact h
        · intro ns hn
          have h6 := (f.hr ns hn).2
          simp
          refine lc_all T.int toI1 (fun _ => rfl) ns (fun r => if r = 0 then T.bl false else T.int r) ?_ (by simp) (by simp) (sz1000 (by omega)) ?_ ?_
          · intro k h
            simp
            exact h
          · intro r _
            by_cases c : r = 0 <;> simp [c]
          · simp
        · simp
          refine hR _ (oks_all.mpr fun t ht => ?_) (sms (fun t ht => ?_) (by rw [List.length_map]; omega))
          · obtain ⟨ns, hns, rfl⟩ := List.mem_map.mp ht
            exact oks_mapf fun r _ => by by_cases c : r = 0 <;> simp [c]
          · obtain ⟨ns, hns, rfl⟩ := List.mem_map.mp ht
            have := (f.hr ns hns).2
            simp [smallT]
            omega
      simp only [e_put, List.set_cons_succ, List.set_cons_zero]
      refine app_gd hL rfl (by omega) (fun R hR => ?_) (fun L hL => ?_)
      · simp [sizeLine_eq]
        exact hR _ (by simp [okF]) (by simp [small2, smallT]; try omega)
      simp only [e_put, List.set_cons_succ, List.set_cons_zero]
      refine app_gd hL rfl (by omega) (fun R hR => ?_) (fun L hL => ?_)
      · simp [sizeLine_eq]
        exact hR _ (by simp [okF]) (by simp [small2, smallT]; try omega)
      simp only [e_put, List.set_cons_succ, List.set_cons_zero]
      refine app_gd hL rfl (by omega) (fun R hR => ?_) (fun L hL => ?_)
      · simp [sizeLine_eq]
        exact hR _ (by simp [okF]) (by simp [small2, smallT]; try omega)
      simp only [e_put, List.set_cons_succ, List.set_cons_zero]
      refine app_gd hL rfl (by omega) (fun R hR => ?_) (fun L hL => ?_)
      · simp [sizeLine_eq]
        exact hR _ (by simp [okF]) (by simp [small2, smallT]; try omega)
      simp only [e_put, List.set_cons_succ, List.set_cons_zero]
      refine app_gd hL rfl (by omega) (fun R hR => ?_) (fun L hL => ?_)
      · simp [sizeLine_eq]
        exact hR _ (by simp [okF]) (by simp [small2, smallT]; try omega)
      simp only [e_put, List.set_cons_succ, List.set_cons_zero]
      refine app_gd hL rfl (by omega) (fun R hR => ?_) (fun L hL => ?_)
      · simp [sizeLine_eq]
        exact hR _ (by simp [okF]) (by simp [small2, smallT]; try omega)
      simp only [e_put, List.set_cons_succ, List.set_cons_zero]
      refine app_gd hL rfl (by omega) (fun R hR => ?_) (fun L hL => ?_)
      · simp [sizeLine_eq]
        exact hR _ (by simp [okF]) (by simp [small2, smallT]; try omega)
      simp only [e_put, List.set_cons_succ, List.set_cons_zero]
      have hLn := hL.2.2
      simp
      exact hk L tp3 hL.1 hL.2.1 (by omega) (ht3.mono (by omega))
end Pf

namespace Pf
open PySem PySem.Spec PyProof.Rows L2 TL
theorem r__law_tape : ∀ ts k, P__law_tape ts k → x__law_tape (enP k) (stP 6 ts) := by
  rintro ts k ⟨cells, rfl, hl, hk⟩
  simp [x__law_tape]
  have cp : CPow 10 60 := ⟨by omega, by omega, by decide⟩
  refine ⟨cp, mul_ok 200 200 (by decide) (by decide) (by decide) (by decide) (by omega) (by omega) (by omega), mul_ok 400 200 (by decide) (by decide) (by decide) (by decide) (by omega) (by omega) (by omega), mul_ok 600 200 (by decide) (by decide) (by decide) (by decide) (by omega) (by omega) (by omega), mul_ok 800 200 (by decide) (by decide) (by decide) (by decide) (by omega) (by omega) (by omega), mul_ok 1000 200 (by decide) (by decide) (by decide) (by decide) (by omega) (by omega) (by omega), ?_⟩
  have hB0 : (0 : Int) < 1000000000000000000000000000000000000000000000000000000000000000000000000000000000000000000000000000000000000000000000000000000000000000000000000000000000000000000000000000000000000000000000000000000000000000000000000000000000000000000000000000000000000000000000000000000000000000000000000000000000000000000000000000000000000000000000000000000000000000000000000 := by decide
  generalize (1000000000000000000000000000000000000000000000000000000000000000000000000000000000000000000000000000000000000000000000000000000000000000000000000000000000000000000000000000000000000000000000000000000000000000000000000000000000000000000000000000000000000000000000000000000000000000000000000000000000000000000000000000000000000000000000000000000000000000000000000 : Int) = B at hB0
  generalize (1000000000000000000000000000000000000000000000000000000000000 : Int) = b60
  refine lc_all T.int toI1 (fun _ => rfl) (cells.take 63) (fun c => T.int (c % 1000033)) ?_ (by simp) (by simp) (sz1000 (by rw [List.length_take]; omega)) ?_ ?_
  · intro k h
    simp
    rw [cut_map, cut_to cells (by omega)]
    exact h
  · intro c hc
    simp
  · have em : (cells.take 63).map (fun c => T.int (c % 1000033)) = ((cells.take 63).map (· % 1000033)).map T.int := by
      rw [List.map_map]
      rfl
    rw [em]
    have cb : ∀ c ∈ (cells.take 63).map (· % 1000033), 0 ≤ c ∧ c < 2097152 := fun c hc => by
      obtain ⟨x, _, rfl⟩ := List.mem_map.mp hc
      have h1 := Int.emod_nonneg x (show (1000033 : Int) ≠ 0 by omega)
      have h2 := Int.emod_lt_of_pos x (show (0 : Int) < 1000033 by omega)
      exact ⟨h1, by omega⟩
    have clen : ((cells.take 63).map (· % 1000033)).length ≤ 63 := by
      rw [List.length_map, List.length_take]
      omega
    clear em
    generalize (cells.take 63).map (· % 1000033) = cs at cb clen
    simp
    refine for_ov (ts := (cells.take 63).map T.int) (fun n s => ∃ (great : Int) (d5 : TL.Slot), 0 ≤ great ∧ s = ⟨[.fr (.scr (cells.map T.int)), .fr (.int b60), .fr (.int B), .fr (.int great), .fr (.lst (cs.map T.int)), d5], none⟩) ?_ ⟨0, _, by omega, rfl⟩ ?_ ?_
    · intro k h
      simp
      rw [cut_map, cut_to cells (by omega)]
      exact h
    · rintro n x s hx ⟨great, d5, g0, rfl⟩ N hN
      obtain ⟨c, h1, rfl⟩ := ints_get hx
      simp
      by_cases cg : great = 0
      · rcases ltge c 1000000000000000000 with cc | cc
        · simp [cg, Int.not_le.mpr cc, cc]
          exact hN _ ⟨0, _, by omega, rfl⟩
        · simp [cg, cc, Int.not_lt.mpr cc]
          exact ⟨hB0, hN _ ⟨_, _, Int.emod_nonneg _ (by omega), rfl⟩⟩
      · simp [cg]
        exact hN _ ⟨great, _, g0, rfl⟩
    · rintro s ⟨great, d5, g0, rfl⟩
      simp
      have v0 : 0 ≤ (cells.length : Int) % 61 := Int.emod_nonneg _ (by omega)
      have v1 : (cells.length : Int) % 61 < 61 := Int.emod_lt_of_pos _ (by omega)
      generalize (cells.length : Int) % 61 = v at v0 v1
      refine ⟨by rw [sizeLine_eq]; omega, by rw [sizeLine_eq]; omega, by rw [sizeLine_eq]; omega, ?_⟩
      refine hk _ ⟨0, great, cs ++ [v + 3], by rw [snoc_int], by omega, by omega, g0, by rw [List.length_append]; simp, by rw [List.length_append]; simp; omega, fun c hc => ?_⟩
      rcases List.mem_append.mp hc with h | h
      · exact cb c h
      · rw [List.mem_singleton.mp h]
        omega
end Pf

/-! statements read in one zone: bodies that raise -/
namespace TL
open PySem PySem.Spec PyProof.Rows L2
structure PZ1 (X : Cx) (Z : Zone) (s : Stmt) (t : TS) (x : XS) : Prop where
  ps : PS X s t
  sn : SndS Z t x
structure PZ (X : Cx) (Z : Zone) (s : List Stmt) (t : TS) (x : XS) : Prop where
  ps : PSs X s t
  sn : SndS Z t x
section
variable {X : Cx} {Z : Zone} {s : Stmt} {ss : List Stmt} {t u : TS} {x y : XS} {pos : Pos} {c : Expr} {tc : TT} {xc : XT} {a b : List Stmt}
theorem z_nil : PZ X Z [] tNext xNext := ⟨pss_nil, fun D st h B σ H r D' d => d.nx B st σ H h (Ex.refl B) r⟩
theorem z_one (h : PZ1 X Z s t x) : PZ X Z [s] t x := ⟨pss_one h.ps, h.sn⟩
theorem z_cons (h : PZ1 X Z s t x) (g : PZ X Z ss u y) : PZ X Z (s :: ss) (tSeq t u) (xSeq x y) := ⟨pss_cons h.ps g.ps, snd_seq h.sn g.sn⟩
theorem z_of (hZ : Z.K = X.K) (h : PSB X ss t x) : PZ X Z ss t x := ⟨h.ps, h.sn Z hZ⟩
theorem z_if (hZ : Z.K = X.K) (hc : PB X c tc xc) (ha : PZ X Z a t x) (hb : PZ X Z b u y) : PZ1 X Z (.If c a b pos) (tIfS tc t u) (xIfS xc x y) := ⟨ps_if hc.pt ha.ps hb.ps, snd_if (hc.sn Z hZ) ha.sn hb.sn⟩
theorem z_for {tg iter : Expr} {wi : TI} {xi : XI} {g : TG} {xg : XG} (hZ : Z.K = X.K) (hp : PassesOwn (model X.prog X.w) X.A X.env X.xe) (hc : X.calm = true) (hi : PIX X tg iter wi xi) (hg : PGX X tg g xg) (hb : PZ X Z a t x) (hs : ∀ x, foldedSetIterable iter X.env x = pure x := by intro _; rfl) :
    PZ1 X Z (.For tg iter a [] pos) (tFor wi g t) (xFor xi xg x) := ⟨ps_for hp hc hi.pi hg.pg hb.ps hs, snd_for (hi.sn Z hZ) (hg.sn Z hZ) hb.sn⟩
theorem z_raise {n f : Str} {C fI : Addr} {E : XK} {ke : Str → Prop} {z : Str} {p p1 p2 pos : Pos} {k : Nat} (T : Bad X.prog X.w X.K X.mg X.base n f C fI) (hE : ErrOk Z f C E ke) (hc : X.calm = true) (tk : Takes X (fun cls d _ H => E cls d H)) (hr : Room 2 X.A) (hg : Gl X n) (hdb : (n == ("__debug__" : Str)) = false := by decide)
    (he : starEach [.Constant (.str z) k p1] X.env = (false, eval (.Constant (.str z) k p1) X.env) :: starEach [] X.env := by rfl) (hpl : (backTo p2 (starEach [] X.env)).any (·.1) = false := by rfl) :
    PZ1 X Z (.Raise (some (.Call (.Name n p) [.Constant (.str z) k p1] [] p2)) none pos) (fun _ σ H => tMkO C (spI f C) [] (tCons (tC (.str z)) tNil) σ H fun cls d H' => E cls d H') (xRaise ke z) := by
  obtain ⟨fd, FI, bI⟩ := T.fn
  exact ⟨ps_raise (W := fun cls d _ H => E cls d H) hc tk (pmk_oex (dvs := []) T.ox T.iC T.tI FI hr bI .nil pass0 hg T.gC (px_cons px_str px_nil he).pa hdb he hpl), snd_raise hE⟩
end
end TL

/-! an owned list becomes the shared one -/
namespace TL
open PySem PySem.Spec PyProof.Rows L2
theorem Rl.share {Z : Zone} {B : Hp} {st : S} {σ : L2.St} {H : Hp} (r : Rl Z B st σ H) {i : Nat} {ts : List T} (e : st.ds[i]? = some (Slot.ow (.lst ts))) (h0 : st.tp = none) : ∃ p, Rl Z B ⟨st.ds.set i (.fr (.adr p)), some (p, ts)⟩ σ H := by
  obtain ⟨p, o, h1, h2, h3, h4, h5, h6⟩ := r.ow i _ e
  have hi : i < st.ds.length := (List.getElem?_eq_some_iff.mp e).1
  have ne : ∀ {j : Nat} {c : Ob}, (st.ds.set i (.fr (.adr p)))[j]? = some (Slot.ow c) → i ≠ j ∧ st.ds[j]? = some (Slot.ow c) := fun {j c} q => by
    by_cases hj : i = j
    · subst hj
      rw [List.getElem?_set_self hi] at q
      cases q
    · rw [List.getElem?_set_ne hj] at q
      exact ⟨hj, q⟩
  refine ⟨p, r.fk, r.bk, r.b0, r.nw, by show σ.length = (st.ds.set i _).length; rw [List.length_set]; exact r.len, fun j t q => ?_, fun j c q => ?_, fun j k c d a hn e1 e2 s1 s2 => ?_, fun a t q => ?_⟩
  · by_cases hj : i = j
    · subst hj
      rw [List.getElem?_set_self hi] at q
      cases q
      exact ⟨_, h1, .adr p⟩
    · rw [List.getElem?_set_ne hj] at q
      exact r.fr j t q
  · obtain ⟨hj, q'⟩ := ne q
    obtain ⟨a, u, g1, g2, g3, g4, g5, g6⟩ := r.ow j c q'
    refine ⟨a, u, g1, g2, g3, g4, g5, fun b t z => ?_⟩
    have z' : some (p, ts) = some (b, t) := z
    cases z'
    exact fun z => r.di i j _ _ p hj e q' h1 (by rw [← z]; exact g1)
  · exact r.di j k c d a hn (ne e1).2 (ne e2).2 s1 s2
  · have z' : some (p, ts) = some (a, t) := q
    cases z'
    exact ⟨h4, h5, o, h2, h3⟩
def xShare (i : Nat) (x : XS) : XS := fun D st => ∃ ts, st.ds[i]? = some (Slot.ow (.lst ts)) ∧ st.tp = none ∧ ∀ p, x D ⟨st.ds.set i (.fr (.adr p)), some (p, ts)⟩
theorem sx_share {X : Cx} {ss : List Stmt} {t : TS} {x : XS} (i : Nat) (h : PSB X ss t x) : PSB X ss t (xShare i x) := ⟨h.ps, fun Z z D st ⟨ts, e, h0, h1⟩ B σ H r D' d => by
  obtain ⟨p, r'⟩ := r.share e h0
  exact h.sn Z z D _ (h1 p) B σ H r' D' d⟩
end TL

namespace Pf
open PySem PySem.Spec PyProof.Rows L2 TL
def P_law : XF := fun ts k => ∃ cells : List Int, ts = [.scr (cells.map T.int)] ∧ cells.length ≤ 100000 ∧ k (.fr (.bl true))
def x_law : XS := xSeq (xSetW 1 (xCallN P__law_tape (xCons (xVar 0) (xNil))))
  (xShare 1 (xSeq (xSet 2 (xCallT P__law_draw (xCons (xVar 1) (xCons (xC (.int 6)) (xNil)))))
  (xSeq (xFor (xiR1 (xCons (xC (.int 3)) (xNil))) (xgN 3) (xSeq (xSet 4 (xOp ixR (xFz (xLst (xCons (xC (.int 1)) (xCons (xC (.int 2)) (xCons (xC (.int 3)) (xCons (xC (.int 4)) (xCons (xC (.int 5)) (xCons (xC (.int 6)) (xCons (xC (.int 6)) (xCons (xC (.int 4)) (xCons (xC (.int 3)) (xNil)))))))))))) (xCallT P__law_draw (xCons (xVar 1) (xCons (xC (.int 9)) (xNil))))))
  (xSeq (xSet 5 (xOp ixR (xOp ixR (xFz (xLst (xCons (xFz (xLst (xCons (xC (.int 0)) (xCons (xC (.int 1)) (xCons (xC (.int 2)) (xNil)))))) (xCons (xFz (xLst (xCons (xC (.int 0)) (xCons (xC (.int 2)) (xCons (xC (.int 1)) (xNil)))))) (xCons (xFz (xLst (xCons (xC (.int 1)) (xCons (xC (.int 0)) (xCons (xC (.int 2)) (xNil)))))) (xCons (xFz (xLst (xCons (xC (.int 1)) (xCons (xC (.int 2)) (xCons (xC (.int 0)) (xNil)))))) (xCons (xFz (xLst (xCons (xC (.int 2)) (xCons (xC (.int 0)) (xCons (xC (.int 1)) (xNil)))))) (xCons (xFz (xLst (xCons (xC (.int 2)) (xCons (xC (.int 1)) (xCons (xC (.int 0)) (xNil)))))) (xNil))))))))) (xVar 2)) (xVar 3)))
  (xSeq (xIfS (xAnd (xB (xOp (eqR false) (xVar 5) (xC (.int 0)))) (xNot (xTru (xCallT P__law_bars (xCons (xVar 1) (xCons (xVar 4) (xNil))))))) (xRet (xC (.bl false))) (xNext))
  (xSeq (xIfS (xAnd (xB (xOp (eqR false) (xVar 5) (xC (.int 1)))) (xNot (xTru (xCallT P__law_fences (xCons (xVar 1) (xCons (xVar 4) (xNil))))))) (xRet (xC (.bl false))) (xNext))
  (xIfS (xAnd (xB (xOp (eqR false) (xVar 5) (xC (.int 2)))) (xNot (xTru (xCallT P__law_families (xCons (xVar 1) (xCons (xVar 4) (xNil))))))) (xRet (xC (.bl false))) (xNext)))))))
  (xRet (xC (.bl true))))))
end Pf

namespace Pf
open PySem PySem.Spec PyProof.Rows L2 TL
@[simp] theorem e_share {i : Nat} {x : XS} {D : Dx} {st : S} : xShare i x D st = ∃ ts, st.ds[i]? = some (TL.Slot.ow (.lst ts)) ∧ st.tp = none ∧ ∀ p, x D ⟨st.ds.set i (.fr (.adr p)), some (p, ts)⟩ := rfl
theorem many_at {q : Int} (a2 : 0 ≤ q) (b2 : q < 9) : ∃ m : Nat, atI [T.int 1, T.int 2, T.int 3, T.int 4, T.int 5, T.int 6, T.int 6, T.int 4, T.int 3] q = some (.int (m : Int)) ∧ 1 ≤ m ∧ m ≤ 6 := by
  have : q = 0 ∨ q = 1 ∨ q = 2 ∨ q = 3 ∨ q = 4 ∨ q = 5 ∨ q = 6 ∨ q = 7 ∨ q = 8 := by omega
  rcases this with rfl | rfl | rfl | rfl | rfl | rfl | rfl | rfl | rfl
  · exact ⟨1, rfl, by omega, by omega⟩
  · exact ⟨2, rfl, by omega, by omega⟩
  · exact ⟨3, rfl, by omega, by omega⟩
  · exact ⟨4, rfl, by omega, by omega⟩
  · exact ⟨5, rfl, by omega, by omega⟩
  · exact ⟨6, rfl, by omega, by omega⟩
  · exact ⟨6, rfl, by omega, by omega⟩
  · exact ⟨4, rfl, by omega, by omega⟩
  · exact ⟨3, rfl, by omega, by omega⟩
theorem job_at {order : Int} (a1 : 0 ≤ order) (b1 : order < 6) : ∃ j1 j2 j3 : Int, atI [T.lst [T.int 0, T.int 1, T.int 2], T.lst [T.int 0, T.int 2, T.int 1], T.lst [T.int 1, T.int 0, T.int 2], T.lst [T.int 1, T.int 2, T.int 0], T.lst [T.int 2, T.int 0, T.int 1], T.lst [T.int 2, T.int 1, T.int 0]] order = some (.lst [.int j1, .int j2, .int j3]) := by
  have : order = 0 ∨ order = 1 ∨ order = 2 ∨ order = 3 ∨ order = 4 ∨ order = 5 := by omega
  rcases this with rfl | rfl | rfl | rfl | rfl | rfl <;> exact ⟨_, _, _, rfl⟩
def jobsX : XE := (xFz (xLst (xCons (xFz (xLst (xCons (xC (.int 0)) (xCons (xC (.int 1)) (xCons (xC (.int 2)) (xNil)))))) (xCons (xFz (xLst (xCons (xC (.int 0)) (xCons (xC (.int 2)) (xCons (xC (.int 1)) (xNil)))))) (xCons (xFz (xLst (xCons (xC (.int 1)) (xCons (xC (.int 0)) (xCons (xC (.int 2)) (xNil)))))) (xCons (xFz (xLst (xCons (xC (.int 1)) (xCons (xC (.int 2)) (xCons (xC (.int 0)) (xNil)))))) (xCons (xFz (xLst (xCons (xC (.int 2)) (xCons (xC (.int 0)) (xCons (xC (.int 1)) (xNil)))))) (xCons (xFz (xLst (xCons (xC (.int 2)) (xCons (xC (.int 1)) (xCons (xC (.int 0)) (xNil)))))) (xNil)))))))))
theorem e_jobs {st : S} {k : T → S → Prop} (h3 : 3 ≤ sizeLine) (h6 : 6 ≤ sizeLine) (h : k (.lst [T.lst [T.int 0, T.int 1, T.int 2], T.lst [T.int 0, T.int 2, T.int 1], T.lst [T.int 1, T.int 0, T.int 2], T.lst [T.int 1, T.int 2, T.int 0], T.lst [T.int 2, T.int 0, T.int 1], T.lst [T.int 2, T.int 1, T.int 0]]) st) : jobsX st k := ⟨h3, h3, h3, h3, h3, h3, h6, h⟩
theorem r_law : ∀ ts k, P_law ts k → x_law (enP k) (stP 6 ts) := by
  rintro ts k ⟨cells, rfl, hl, hk⟩
  have Mx' : Mx = 1099511627776 := rfl
  simp [x_law]
  refine ⟨cells, rfl, hl, fun tp0 ht0 => ?_⟩
  simp
  intro p
  refine ⟨6, 0, rfl, ht0, by omega, by omega, fun order tp1 a1 b1 ht1 => ?_⟩
  simp
  refine for_ov (ts := rgT 0 3) (fun n s => ∃ (d3 d4 d5 : TL.Slot) (tp' : List T), s = ⟨[.fr (.scr (cells.map T.int)), .fr (.adr p), .fr (.int order), d3, d4, d5], some (p, tp')⟩ ∧ TapeOk (201 * n + 1) tp') ?_ ⟨_, _, _, tp1, rfl, ht1.mono (by omega)⟩ ?_ ?_
  · intro k h
    simp
    exact h
  · rintro n x s hx ⟨d3, d4, d5, tp', rfl, htp'⟩ N hN
    obtain ⟨rfl, hn⟩ := rgT_get hx
    simp [-e_seq]
    refine seq_start ?_
    simp [-e_seq]
    refine ⟨by rw [sizeLine_eq]; omega, 9, 201 * n + 1, rfl, htp', by omega, by omega, fun q tp2 a2 b2 ht2 => ?_⟩
    obtain ⟨m, hm, m1, m6⟩ := many_at a2 (show q < 9 by omega)
    obtain ⟨j1, j2, j3, hj⟩ := job_at a1 (show order < 6 by omega)
    obtain ⟨job, hjob⟩ : ∃ job : Int, atI [T.int j1, T.int j2, T.int j3] (n : Int) = some (.int job) := by
      rcases at3 (x := T.int j1) (y := T.int j2) (z := T.int j3) (q := (n : Int)) (by omega) (by omega) with e | e | e <;> exact ⟨_, e⟩
    have h3 : (3 : Nat) ≤ sizeLine := by rw [sizeLine_eq]; omega
    have h6 : (6 : Nat) ≤ sizeLine := by rw [sizeLine_eq]; omega
    simp [-e_seq, hm]
    refine seq_start ?_
    show xOp ixR (xOp ixR jobsX (xVar 2)) (xVar 3) _ _
    rw [e_op, e_op]
    refine e_jobs h3 h6 ?_
    simp [-e_seq, hj, hjob]
    by_cases c0 : job = 0
    · subst c0
      rw [e_seq]
      simp [-e_seq]
      refine ⟨m, 201 * n + 2, rfl, m1, m6, ht2, by omega, fun tp3 ht3 => ?_⟩
      simp
      exact hN _ ⟨_, _, _, tp3, rfl, ht3.mono (by omega)⟩
    · rw [e_seq]
      simp [-e_seq, c0]
      by_cases c1 : job = 1
      · subst c1
        rw [e_seq]
        simp [-e_seq]
        refine ⟨m, 201 * n + 2, rfl, m1, m6, ht2, by omega, fun tp3 ht3 => ?_⟩
        simp
        exact hN _ ⟨_, _, _, tp3, rfl, ht3.mono (by omega)⟩
      · rw [e_seq]
        simp [-e_seq, c1]
        by_cases c2 : job = 2
        · subst c2
          simp
          refine ⟨m, 201 * n + 2, rfl, m1, m6, ht2, by omega, fun tp3 ht3 => ?_⟩
          simp
          exact hN _ ⟨_, _, _, tp3, rfl, ht3.mono (by omega)⟩
        · simp [c2]
          exact hN _ ⟨_, _, _, tp2, rfl, ht2.mono (by omega)⟩
  · rintro s ⟨d3, d4, d5, tp', rfl, htp'⟩
    simp
    exact hk
end Pf

/-! families of sets, closed under unions: the plain law of what is grown -/
namespace Pf
open PySem PySem.Spec PyProof.Rows L2 TL
theorem uni_eq {a b c : List Int} (ha : Inc a) (hb : Inc b) (hc : Inc c) (h : ∀ i, i ∈ c ↔ i ∈ a ∨ i ∈ b) : uni a b = c := inc_ext (uni_inc ha hb) hc fun i => uni_mem.trans (h i).symm
theorem inc_nil : Inc [] := List.Pairwise.nil
theorem inc_one (r : Int) : Inc [r] := List.pairwise_singleton _ _
theorem uni_nil {a : List Int} (ha : Inc a) : uni a [] = a := uni_eq ha inc_nil ha fun i => by simp
structure Cls (many : Nat) (F : List Int → Prop) : Prop where
  hi : ∀ x, F x → Inc x ∧ InR many x
  e0 : F []
  rc : ∀ x, F x → x ≠ [] → ∃ r ∈ x, F (wo x r)
  un : ∀ x y, F x → F y → F (uni x y)
theorem Cls.congr {many : Nat} {F G : List Int → Prop} (h : Cls many F) (e : ∀ x, F x ↔ G x) : Cls many G :=
  ⟨fun x hx => h.hi x ((e x).mpr hx), (e _).mp h.e0, fun x hx hn => by
    obtain ⟨r, h1, h2⟩ := h.rc x ((e x).mpr hx) hn
    exact ⟨r, h1, (e _).mp h2⟩, fun x y hx hy => (e _).mp (h.un x y ((e x).mpr hx) ((e y).mpr hy))⟩
/-- a chain of beginnings: the last one, all of them -/
inductive Ch (many : Nat) : List Int → List (List Int) → Prop
  | nil : Ch many [] [[]]
  | snoc {l : List Int} {cs : List (List Int)} {r : Int} : Ch many l cs → r ∉ l → 0 ≤ r → r < many → Ch many (uni l [r]) (cs ++ [uni l [r]])
structure ChF (many : Nat) (l : List Int) (cs : List (List Int)) : Prop where
  li : Inc l
  lr : InR many l
  lm : l ∈ cs
  e0 : [] ∈ cs
  hi : ∀ c ∈ cs, Inc c ∧ InR many c
  sub : ∀ c ∈ cs, ∀ i ∈ c, i ∈ l
  nest : ∀ c ∈ cs, ∀ d ∈ cs, (∀ i ∈ c, i ∈ d) ∨ ∀ i ∈ d, i ∈ c
theorem Ch.f {many : Nat} {l : List Int} {cs : List (List Int)} (h : Ch many l cs) : ChF many l cs := by
  induction h with
  | nil => exact ⟨inc_nil, fun r hr => by simp at hr, by simp, by simp, fun c hc => by
      rw [List.mem_singleton.mp hc]
      exact ⟨inc_nil, fun r hr => by simp at hr⟩, fun c hc i hi => by
      rw [List.mem_singleton.mp hc] at hi
      exact hi, fun c hc d hd => by
      rw [List.mem_singleton.mp hc]
      exact .inl fun i hi => by simp at hi⟩
  | @snoc l cs r h hr h0 h1 ih =>
    have ni : Inc (uni l [r]) := uni_inc ih.li (inc_one r)
    have nr : InR many (uni l [r]) := fun i hi => by
      rcases uni_mem.mp hi with h | h
      · exact ih.lr i h
      · rw [List.mem_singleton.mp h]
        exact ⟨h0, h1⟩
    have ns : ∀ c ∈ cs, ∀ i ∈ c, i ∈ uni l [r] := fun c hc i hi => uni_mem.mpr (.inl (ih.sub c hc i hi))
    refine ⟨ni, nr, by simp, List.mem_append_left _ ih.e0, fun c hc => ?_, fun c hc => ?_, fun c hc d hd => ?_⟩
    · rcases List.mem_append.mp hc with h | h
      · exact ih.hi c h
      · rw [List.mem_singleton.mp h]
        exact ⟨ni, nr⟩
    · rcases List.mem_append.mp hc with h | h
      · exact ns c h
      · rw [List.mem_singleton.mp h]
        exact fun i hi => hi
    · rcases List.mem_append.mp hc with h | h
      · rcases List.mem_append.mp hd with g | g
        · exact ih.nest c h d g
        · rw [List.mem_singleton.mp g]
          exact .inl (ns c h)
      · rw [List.mem_singleton.mp h]
        rcases List.mem_append.mp hd with g | g
        · exact .inr (ns d g)
        · rw [List.mem_singleton.mp g]
          exact .inl fun i hi => hi
def NxF (F : List Int → Prop) (cs : List (List Int)) : List Int → Prop := fun x => ∃ a c, F a ∧ c ∈ cs ∧ x = uni a c
theorem wo_self {a : List Int} {r : Int} (h : r ∉ a) : wo a r = a := by
  unfold wo
  rw [List.filter_eq_self]
  intro i hi
  have : i ≠ r := fun z => h (by rw [← z]; exact hi)
  simpa using this
theorem Ch.reach {many : Nat} {F : List Int → Prop} (C : Cls many F) {l : List Int} {cs : List (List Int)} (h : Ch many l cs) : ∀ a c, F a → c ∈ cs → uni a c ≠ [] → ∃ r ∈ uni a c, NxF F cs (wo (uni a c) r) := by
  induction h with
  | nil =>
    intro a c ha hc hn
    rw [List.mem_singleton.mp hc, uni_nil (C.hi a ha).1] at hn ⊢
    obtain ⟨r, h1, h2⟩ := C.rc a ha hn
    exact ⟨r, h1, _, [], h2, by simp, (uni_nil (C.hi _ h2).1).symm⟩
  | @snoc l cs r h hr h0 h1 ih =>
    intro a c ha hc hn
    have f := h.f
    have up : ∀ x, NxF F cs x → NxF F (cs ++ [uni l [r]]) x := fun x ⟨a, c, h1, h2, h3⟩ => ⟨a, c, h1, List.mem_append_left _ h2, h3⟩
    rcases List.mem_append.mp hc with g | g
    · obtain ⟨q, q1, q2⟩ := ih a c ha g hn
      exact ⟨q, q1, up _ q2⟩
    · rw [List.mem_singleton.mp g] at hn ⊢
      have ai := (C.hi a ha).1
      have ni : Inc (uni l [r]) := uni_inc f.li (inc_one r)
      have ul := uni_inc ai f.li
      by_cases c1 : r ∈ a
      · have e : uni a (uni l [r]) = uni a l := uni_eq ai ni ul fun i => by
          rw [uni_mem, uni_mem, List.mem_singleton]
          constructor
          · rintro (q | q)
            · exact .inl q
            · exact .inr (.inl q)
          · rintro (q | q | q)
            · exact .inl q
            · exact .inr q
            · subst q
              exact .inl c1
        rw [e] at hn ⊢
        obtain ⟨q, q1, q2⟩ := ih a l ha f.lm hn
        exact ⟨q, q1, up _ q2⟩
      · refine ⟨r, uni_mem.mpr (.inr (uni_mem.mpr (.inr (by simp)))), a, l, ha, List.mem_append_left _ f.lm, ?_⟩
        refine inc_ext (wo_inc r (uni_inc ai ni)) ul fun i => ?_
        rw [wo_mem, uni_mem, uni_mem, uni_mem, List.mem_singleton]
        constructor
        · rintro ⟨q | q | q, z⟩
          · exact .inl q
          · exact .inr q
          · exact absurd q z
        · rintro (q | q)
          · exact ⟨.inl q, fun z => c1 (by rw [← z]; exact q)⟩
          · exact ⟨.inr (.inl q), fun z => hr (by rw [← z]; exact q)⟩
theorem Cls.next {many : Nat} {F : List Int → Prop} (C : Cls many F) {l : List Int} {cs : List (List Int)} (h : Ch many l cs) : Cls many (NxF F cs) := by
  have f := h.f
  refine ⟨?_, ⟨[], [], C.e0, f.e0, (uni_nil inc_nil).symm⟩, ?_, ?_⟩
  · rintro x ⟨a, c, ha, hc, rfl⟩
    refine ⟨uni_inc (C.hi a ha).1 (f.hi c hc).1, fun i hi => ?_⟩
    rcases uni_mem.mp hi with q | q
    · exact (C.hi a ha).2 i q
    · exact (f.hi c hc).2 i q
  · rintro x ⟨a, c, ha, hc, rfl⟩ hn
    exact h.reach C a c ha hc hn
  · rintro x y ⟨a, c, ha, hc, rfl⟩ ⟨b, d, hb, hd, rfl⟩
    have ai := (C.hi a ha).1
    have bi := (C.hi b hb).1
    have ci := (f.hi c hc).1
    have di := (f.hi d hd).1
    rcases f.nest c hc d hd with g | g
    · refine ⟨uni a b, d, C.un a b ha hb, hd, inc_ext (uni_inc (uni_inc ai ci) (uni_inc bi di)) (uni_inc (uni_inc ai bi) di) fun i => ?_⟩
      simp only [uni_mem]
      constructor
      · rintro ((q | q) | (q | q))
        · exact .inl (.inl q)
        · exact .inr (g i q)
        · exact .inl (.inr q)
        · exact .inr q
      · rintro ((q | q) | q)
        · exact .inl (.inl q)
        · exact .inr (.inl q)
        · exact .inr (.inr q)
    · refine ⟨uni a b, c, C.un a b ha hb, hc, inc_ext (uni_inc (uni_inc ai ci) (uni_inc bi di)) (uni_inc (uni_inc ai bi) ci) fun i => ?_⟩
      simp only [uni_mem]
      constructor
      · rintro ((q | q) | (q | q))
        · exact .inl (.inl q)
        · exact .inr q
        · exact .inl (.inr q)
        · exact .inr (g i q)
      · rintro ((q | q) | q)
        · exact .inl (.inl q)
        · exact .inr (.inl q)
        · exact .inl (.inr q)
/-! ### by masks -/
def Mk (many : Nat) (m : Int) : Prop := ∃ x, Inc x ∧ InR many x ∧ m = maskZ x
theorem inr6 {many : Nat} (h6 : many ≤ 6) {x : List Int} (h : InR many x) : InR 6 x := fun r hr => by
  have := h r hr
  omega
theorem mask_lt {many : Nat} (h6 : many ≤ 6) {m : Int} (h : Mk many m) : 0 ≤ m ∧ m < 64 := by
  obtain ⟨x, hi, hr, rfl⟩ := h
  rw [mask_mo (inr6 h6 hr) (inc_nodup hi)]
  unfold mo mb
  have x0 := bz01 (mI x 0)
  have x1 := bz01 (mI x 1)
  have x2 := bz01 (mI x 2)
  have x3 := bz01 (mI x 3)
  have x4 := bz01 (mI x 4)
  have x5 := bz01 (mI x 5)
  omega
def FK (many : Nat) (ks : List Int) : List Int → Prop := fun x => Inc x ∧ InR many x ∧ maskZ x ∈ ks
structure Gr (many : Nat) (ks : List Int) : Prop where
  nd : ks.Nodup
  mks : ∀ m ∈ ks, Mk many m
  cl : Cls many (FK many ks)
theorem Gr.len {many : Nat} {ks : List Int} (h6 : many ≤ 6) (nd : ks.Nodup) (mk : ∀ m ∈ ks, Mk many m) : ks.length ≤ 64 := by
  have := nodup_len (l := ks) (m := full 64) nd fun m hm => full_mem.mpr (mask_lt h6 (mk m hm))
  rwa [full_len] at this
theorem mk_or {many : Nat} (h6 : many ≤ 6) {a b : Int} (ha : Mk many a) (hb : Mk many b) : Mk many (Builtin.bitOr a b) := by
  obtain ⟨x, xi, xr, rfl⟩ := ha
  obtain ⟨y, yi, yr, rfl⟩ := hb
  exact ⟨uni x y, uni_inc xi yi, fun i hi => (uni_mem.mp hi).elim (xr i) (yr i), (mask_uni (inr6 h6 xr) (inr6 h6 yr) xi yi).symm⟩
theorem gr_0 (many : Nat) : Gr many [0] := by
  have e : ∀ x, FK many [0] x ↔ x = [] := fun x => by
    constructor
    · rintro ⟨h1, h2, h3⟩
      have := List.mem_singleton.mp h3
      cases x with
      | nil => rfl
      | cons r x =>
        have := (mask_nn (r :: x)).2 (by simp)
        omega
    · rintro rfl
      exact ⟨inc_nil, fun r hr => by simp at hr, by simp [maskZ]⟩
  refine ⟨by simp, fun m hm => ⟨[], inc_nil, fun r hr => by simp at hr, by rw [List.mem_singleton.mp hm]; rfl⟩, ?_⟩
  refine Cls.congr (F := fun x => x = []) ⟨?_, rfl, ?_, ?_⟩ fun x => (e x).symm
  · rintro x rfl
    exact ⟨inc_nil, fun r hr => by simp at hr⟩
  · rintro x rfl h
    exact absurd rfl h
  · rintro x y rfl rfl
    exact uni_nil inc_nil
theorem gr_next {many : Nat} (h6 : many ≤ 6) {ks ks' : List Int} (g : Gr many ks) {l : List Int} {cs : List (List Int)} (h : Ch many l cs) (nd : ks'.Nodup) (hk : ∀ m, m ∈ ks' ↔ m ∈ ks ∨ ∃ a ∈ ks, ∃ b ∈ cs.map maskZ, m = Builtin.bitOr a b) : Gr many ks' ∧ maskZ l ∈ ks' := by
  have f := h.f
  have mc : ∀ b ∈ cs.map maskZ, Mk many b := fun b hb => by
    obtain ⟨c, hc, rfl⟩ := List.mem_map.mp hb
    exact ⟨c, (f.hi c hc).1, (f.hi c hc).2, rfl⟩
  have mk : ∀ m ∈ ks', Mk many m := fun m hm => by
    rcases (hk m).mp hm with q | ⟨a, ha, b, hb, rfl⟩
    · exact g.mks m q
    · exact mk_or h6 (g.mks a ha) (mc b hb)
  have e : ∀ x, NxF (FK many ks) cs x ↔ FK many ks' x := fun x => by
    constructor
    · rintro ⟨a, c, ⟨ai, ar, am⟩, hc, rfl⟩
      have ci := (f.hi c hc).1
      have cr := (f.hi c hc).2
      refine ⟨uni_inc ai ci, fun i hi => (uni_mem.mp hi).elim (ar i) (cr i), (hk _).mpr (.inr ⟨_, am, _, List.mem_map_of_mem hc, mask_uni (inr6 h6 ar) (inr6 h6 cr) ai ci⟩)⟩
    · rintro ⟨xi, xr, xm⟩
      rcases (hk _).mp xm with q | ⟨a, ha, b, hb, e⟩
      · exact ⟨x, [], ⟨xi, xr, q⟩, f.e0, (uni_nil xi).symm⟩
      · obtain ⟨y, yi, yr, rfl⟩ := g.mks a ha
        obtain ⟨c, hc, rfl⟩ := List.mem_map.mp hb
        have ci := (f.hi c hc).1
        have cr := (f.hi c hc).2
        refine ⟨y, c, ⟨yi, yr, ha⟩, hc, ?_⟩
        rw [← mask_uni (inr6 h6 yr) (inr6 h6 cr) yi ci] at e
        exact mask_inj (inr6 h6 xr) (inr6 h6 fun i hi => (uni_mem.mp hi).elim (yr i) (cr i)) xi (uni_inc yi ci) e
  have C : Cls many (FK many ks') := (g.cl.next h).congr e
  refine ⟨⟨nd, mk, C⟩, ?_⟩
  have : FK many ks' l := (e l).mp ⟨[], l, g.cl.e0, f.lm, (inc_ext (uni_inc inc_nil f.li) f.li fun i => by rw [uni_mem]; simp).symm⟩
  exact this.2.2
/-! ### back from masks -/
def setZ (many : Nat) (m : Int) : List Int := (full many).filter fun r => decide (m / bitv r % 2 = 1)
theorem mb_bits : ∀ b0 b1 b2 b3 b4 b5 : Bool, decide (mb b0 b1 b2 b3 b4 b5 / 1 % 2 = 1) = b0 ∧ decide (mb b0 b1 b2 b3 b4 b5 / 2 % 2 = 1) = b1 ∧ decide (mb b0 b1 b2 b3 b4 b5 / 4 % 2 = 1) = b2 ∧ decide (mb b0 b1 b2 b3 b4 b5 / 8 % 2 = 1) = b3 ∧ decide (mb b0 b1 b2 b3 b4 b5 / 16 % 2 = 1) = b4 ∧ decide (mb b0 b1 b2 b3 b4 b5 / 32 % 2 = 1) = b5 := by decide +kernel
theorem setZ_mask {many : Nat} (h6 : many ≤ 6) {x : List Int} (hi : Inc x) (hr : InR many x) : setZ many (maskZ x) = x := by
  refine inc_ext ((full_inc many).sublist List.filter_sublist) hi fun i => ?_
  unfold setZ
  rw [List.mem_filter, full_mem, mask_mo (inr6 h6 hr) (inc_nodup hi)]
  unfold mo
  obtain ⟨e0, e1, e2, e3, e4, e5⟩ := mb_bits (mI x 0) (mI x 1) (mI x 2) (mI x 3) (mI x 4) (mI x 5)
  have key : 0 ≤ i → i < 6 → decide (mb (mI x 0) (mI x 1) (mI x 2) (mI x 3) (mI x 4) (mI x 5) / bitv i % 2 = 1) = mI x i := fun h0 h1 => by
    have : i = 0 ∨ i = 1 ∨ i = 2 ∨ i = 3 ∨ i = 4 ∨ i = 5 := by omega
    rcases this with rfl | rfl | rfl | rfl | rfl | rfl
    · exact e0
    · exact e1
    · exact e2
    · exact e3
    · exact e4
    · exact e5
  constructor
  · rintro ⟨⟨h0, h1⟩, h2⟩
    rw [key h0 (by omega)] at h2
    exact of_decide_eq_true h2
  · intro h
    have := hr i h
    refine ⟨this, ?_⟩
    rw [key this.1 (by omega)]
    exact decide_eq_true h
theorem setZ_0 (many : Nat) : setZ many 0 = [] := by
  unfold setZ
  rw [List.filter_eq_nil_iff]
  intro r hr
  simp
/-- the sets, in the order of their masks -/
def setsOf (many : Nat) (ks : List Int) : List (List Int) := (srt ks).map (setZ many)
theorem mem_setsOf {many : Nat} (h6 : many ≤ 6) {ks : List Int} (g : Gr many ks) (x : List Int) : x ∈ setsOf many ks ↔ FK many ks x := by
  unfold setsOf
  rw [List.mem_map]
  constructor
  · rintro ⟨m, hm, rfl⟩
    have hm := (srt_perm ks).mem_iff.mp hm
    obtain ⟨y, yi, yr, e⟩ := g.mks m hm
    subst e
    rw [setZ_mask h6 yi yr]
    exact ⟨yi, yr, hm⟩
  · rintro ⟨h1, h2, h3⟩
    exact ⟨_, (srt_perm ks).mem_iff.mpr h3, setZ_mask h6 h1 h2⟩
theorem setsOf_nodup {many : Nat} (h6 : many ≤ 6) {ks : List Int} (g : Gr many ks) : (setsOf many ks).Nodup := by
  unfold setsOf
  refine List.pairwise_map.mpr ?_
  have nd : (srt ks).Nodup := (srt_perm ks).nodup_iff.mpr g.nd
  refine List.Pairwise.imp_of_mem (fun {a b} ha hb hne => ?_) nd
  obtain ⟨x, xi, xr, rfl⟩ := g.mks a ((srt_perm ks).mem_iff.mp ha)
  obtain ⟨y, yi, yr, rfl⟩ := g.mks b ((srt_perm ks).mem_iff.mp hb)
  rw [setZ_mask h6 xi xr, setZ_mask h6 yi yr]
  intro z
  exact hne (by rw [z])
theorem setsOf_first {many : Nat} (h6 : many ≤ 6) {ks : List Int} (g : Gr many ks) : (setsOf many ks)[0]? = some [] := by
  have h0 : (0 : Int) ∈ srt ks := (srt_perm ks).mem_iff.mpr g.cl.e0.2.2
  unfold setsOf
  have pos : ∀ m ∈ srt ks, 0 ≤ m := fun m hm => (mask_lt h6 (g.mks m ((srt_perm ks).mem_iff.mp hm))).1
  have rs := srt_rising ks
  generalize srt ks = q at h0 pos rs
  cases q with
  | nil => cases h0
  | cons m q =>
    have : m = 0 := by
      have p := pos m List.mem_cons_self
      rcases List.mem_cons.mp h0 with z | z
      · omega
      · have := (List.pairwise_cons.mp rs).1 0 z
        omega
    subst this
    rw [List.map_cons, setZ_0]
    rfl
/-! ### the order of tuples -/
theorem lexAt_shift {e r e' r' : Nat → Bool} {z : Bool} (he : ∀ i, e (i + 1) = e' i) (hr : ∀ i, r (i + 1) = r' i) : ∀ (k i : Nat), Ob.lexAt e r z (i + 1) k = Ob.lexAt e' r' z i k
  | 0, i => rfl
  | k + 1, i => by
    rw [Ob.lexAt_succ, Ob.lexAt_succ, he, hr, lexAt_shift he hr k (i + 1)]
theorem tle_cons {x y : Int} {a b : List Int} : tle (x :: a) (y :: b) = if x = y then tle a b else decide (x ≤ y) := by
  unfold tle
  have e1 : min (x :: a).length (y :: b).length = min a.length b.length + 1 := by
    rw [List.length_cons, List.length_cons]
    omega
  rw [e1, Ob.lexAt_succ, lexAt_shift (e' := fun j => decide (a.getD j 0 = b.getD j 0)) (r' := fun j => decide (a.getD j 0 ≤ b.getD j 0)) (fun i => by simp) (fun i => by simp)]
  have e2 : decide ((x :: a).length ≤ (y :: b).length) = decide (a.length ≤ b.length) := by
    rw [decide_eq_decide, List.length_cons, List.length_cons]
    omega
  rw [e2]
  simp
theorem tle_lt : ∀ {a b : List Int}, HT.lexLt a b = true → tle b a = false
  | [], [], h => by cases h
  | [], y :: b, _ => by
    unfold tle
    simp [Ob.lexAt_zero]
  | x :: a, [], h => by cases h
  | x :: a, y :: b, h => by
    rw [HT.lexLt_cons] at h
    rw [tle_cons]
    by_cases e : x = y
    · subst e
      rw [if_pos rfl] at h
      rw [if_pos rfl]
      exact tle_lt h
    · rw [if_neg e] at h
      have := of_decide_eq_true h
      rw [if_neg fun z => e z.symm, decide_eq_false]
      omega
theorem sets_ok {many : Nat} : ∀ {l : List (List Int)} {o : Option (List Int)}, (∀ ns ∈ l, InR many ns ∧ Inc ns) → l.Pairwise (fun a b => HT.lexLt a b = true) → (∀ p, o = some p → ∀ ns ∈ l, HT.lexLt p ns = true) → setsF ((many : Int) - 1) (o.map tI) (l.map tI) = true
  | [], o, _, _, _ => by cases o <;> rfl
  | ns :: l, none, h1, h2, _ => by
    show (asc ((many : Int) - 1) (tI ns) && setsF ((many : Int) - 1) (some (tI ns)) (l.map tI)) = true
    have p := List.pairwise_cons.mp h2
    have z := h1 ns List.mem_cons_self
    have r : setsF ((many : Int) - 1) (some (tI ns)) (l.map tI) = true := sets_ok (o := some ns) (fun m hm => h1 m (List.mem_cons_of_mem _ hm)) p.2 fun q e m hm => by
      cases e
      exact p.1 m hm
    rw [asc_of z.1 z.2, r]
    rfl
  | ns :: l, some q, h1, h2, h3 => by
    show ((asc ((many : Int) - 1) (tI ns) && !tle (toI (tI ns)) (toI (tI q))) && setsF ((many : Int) - 1) (some (tI ns)) (l.map tI)) = true
    have p := List.pairwise_cons.mp h2
    have z := h1 ns List.mem_cons_self
    have r : setsF ((many : Int) - 1) (some (tI ns)) (l.map tI) = true := sets_ok (o := some ns) (fun m hm => h1 m (List.mem_cons_of_mem _ hm)) p.2 fun q e m hm => by
      cases e
      exact p.1 m hm
    rw [asc_of z.1 z.2, toI_tI, toI_tI, tle_lt (h3 q rfl ns List.mem_cons_self), r]
    rfl
theorem pairU_none {all : List (List Int)} : ∀ {l : List (List Int)}, (∀ a ∈ l, ∀ b ∈ l, uni a b ∈ all) → pairU all l = none
  | [], _ => rfl
  | a :: l, h => by
    show (match l.find? fun b => decide (uni a b ∉ all) with
      | some b => some (a, b)
      | none => pairU all l) = none
    have e : (l.find? fun b => decide (uni a b ∉ all)) = none := List.find?_eq_none.mpr fun b hb => by
      simpa using h a List.mem_cons_self b (List.mem_cons_of_mem _ hb)
    rw [e]
    exact pairU_none fun x hx y hy => h x (List.mem_cons_of_mem _ hx) y (List.mem_cons_of_mem _ hy)
theorem fam_of {many : Nat} (h6 : many ≤ 6) {ks : List Int} (g : Gr many ks) (hf : maskZ (full many) ∈ ks) : Fam many (srtL (setsOf many ks)) := by
  have pm : ∀ x, x ∈ srtL (setsOf many ks) ↔ FK many ks x := fun x => (srtL_perm _).mem_iff.trans (mem_setsOf h6 g x)
  have nd : (srtL (setsOf many ks)).Nodup := (srtL_perm _).nodup_iff.mpr (setsOf_nodup h6 g)
  have pw : (srtL (setsOf many ks)).Pairwise (fun a b => HT.lexLt a b = true) := by
    refine (List.Pairwise.and (srtL_rising _) nd).imp fun {a b} h => ?_
    cases q : HT.lexLt a b with
    | true => rfl
    | false => exact absurd (lex_anti q h.1) h.2
  have len : (srtL (setsOf many ks)).length ≤ 64 := by
    rw [(srtL_perm _).length_eq]
    unfold setsOf
    rw [List.length_map, (srt_perm ks).length_eq]
    exact Gr.len h6 g.nd g.mks
  have m0 : [] ∈ srtL (setsOf many ks) := (pm _).mpr g.cl.e0
  have hall : ∀ ns ∈ srtL (setsOf many ks), InR many ns ∧ Inc ns := fun ns hn => ⟨((pm ns).mp hn).2.1, ((pm ns).mp hn).1⟩
  have mf : full many ∈ srtL (setsOf many ks) := (pm _).mpr ⟨full_inc many, fun i hi => full_mem.mp hi, hf⟩
  have mr : ∀ x ∈ srtL (setsOf many ks), x ≠ [] → ∃ r ∈ x, wo x r ∈ srtL (setsOf many ks) := fun x hx hn => by
    obtain ⟨r, h1, h2⟩ := g.cl.rc x ((pm x).mp hx) hn
    exact ⟨r, h1, (pm _).mpr h2⟩
  have mu : ∀ x ∈ srtL (setsOf many ks), ∀ y ∈ srtL (setsOf many ks), uni x y ∈ srtL (setsOf many ks) := fun x hx y hy => (pm _).mpr (g.cl.un x y ((pm x).mp hx) ((pm y).mp hy))
  clear pm
  generalize srtL (setsOf many ks) = q at nd pw len m0 hall mf mr mu
  refine ⟨?_, len, ?_, fun ns hn => ⟨(hall ns hn).1, ?_⟩⟩
  · unfold faultT
    have s : setsB ((many : Int) - 1) (.tup (q.map tI)) = true := sets_ok (o := none) hall pw fun p e => by cases e
    rw [if_pos s]
    have eN : toN (.tup (q.map tI)) = q := by
      show (q.map tI).map toI = q
      rw [List.map_map]
      exact (List.map_congr_left fun ns _ => toI_tI ns).trans (List.map_id q)
    rw [eN]
    unfold fault
    rw [if_neg (fun h => h m0), if_neg (fun h => h mf)]
    have e1 : (q.find? fun ns => !hasU q ns) = none := List.find?_eq_none.mpr fun ns hn => by
      have : hasU q ns = true := by
        unfold hasU
        by_cases c : ns = []
        · subst c
          rfl
        · obtain ⟨r, h1, h2⟩ := mr ns hn c
          rw [Bool.or_eq_true]
          exact .inr (List.any_eq_true.mpr ⟨r, h1, decide_eq_true h2⟩)
      rw [this]
      simp
    rw [e1, pairU_none mu]
  · cases q with
    | nil => cases m0
    | cons a q =>
      rcases List.mem_cons.mp m0 with z | z
      · rw [← z]
        rfl
      · have := (List.pairwise_cons.mp pw).1 [] z
        cases a <;> cases this
  · have z := hall ns hn
    have := inc_len' (a := 0) (m := (many : Int)) (by omega) z.2 z.1
    omega
end Pf

namespace Pf
open PySem PySem.Spec PyProof.Rows L2 TL
def addk (ks : List Int) (m : Int) : List Int := if m ∈ ks then ks else ks ++ [m]
theorem mem_addk {ks : List Int} {m i : Int} : i ∈ addk ks m ↔ i ∈ ks ∨ i = m := by
  unfold addk
  split
  · exact ⟨.inl, fun h => h.elim id fun e => by rw [e]; assumption⟩
  · rw [List.mem_append, List.mem_singleton]
theorem nodup_addk {ks : List Int} {m : Int} (h : ks.Nodup) : (addk ks m).Nodup := by
  unfold addk
  split
  · exact h
  · rename_i hm
    refine List.nodup_append.mpr ⟨h, by simp, fun x hx y hy => ?_⟩
    rw [List.mem_singleton.mp hy]
    intro z
    exact hm (by rw [← z]; exact hx)
theorem hasK_keys {kvs : List (Key × T)} {ks : List Int} (h : kvs.map (·.1) = ks.map Sum.inl) (m : Int) : hasK kvs (Sum.inl m) = decide (m ∈ ks) := by
  have e : hasK kvs (Sum.inl m) = (kvs.map (·.1)).any fun k => decide (k = (Sum.inl m : Key)) := by
    unfold hasK
    rw [List.any_map]
    rfl
  rw [e, h, List.any_map, Bool.eq_iff_iff, List.any_eq_true, decide_eq_true_eq]
  constructor
  · rintro ⟨x, hx, hh⟩
    have hh : decide ((Sum.inl x : Key) = Sum.inl m) = true := hh
    have := Sum.inl.inj (of_decide_eq_true hh)
    rw [← this]
    exact hx
  · intro hm
    exact ⟨m, hm, by simp⟩
theorem put_keys {kvs : List (Key × T)} {ks : List Int} (h : kvs.map (·.1) = ks.map Sum.inl) (m : Int) (v : T) : (putT kvs (Sum.inl m) v).map (·.1) = (addk ks m).map Sum.inl := by
  unfold putT addk
  rw [hasK_keys h]
  by_cases c : m ∈ ks
  · rw [if_pos (decide_eq_true c), if_pos c, ← h, List.map_map]
    refine List.map_congr_left fun p _ => ?_
    show (if p.1 = Sum.inl m then (p.1, v) else p).1 = p.1
    split <;> rfl
  · rw [if_neg (by simpa using c), if_neg c, List.map_append, List.map_append, h]
    rfl
theorem keys_len {kvs : List (Key × T)} {ks : List Int} (h : kvs.map (·.1) = ks.map Sum.inl) : kvs.length = ks.length := by
  have := congrArg List.length h
  rwa [List.length_map, List.length_map] at this
theorem mask_snoc {l : List Int} {r : Int} (hl : InR 6 l) (li : Inc l) (hr : r ∉ l) (h0 : 0 ≤ r) (h1 : r < 6) : maskZ (uni l [r]) = maskZ l + bitv r := by
  have ui := uni_inc li (inc_one r)
  have ur : InR 6 (uni l [r]) := fun i hi => by
    rcases uni_mem.mp hi with q | q
    · exact hl i q
    · rw [List.mem_singleton.mp q]
      exact ⟨h0, by omega⟩
  have e : wo (uni l [r]) r = l := inc_ext (wo_inc r ui) li fun i => by
    rw [wo_mem, uni_mem, List.mem_singleton]
    constructor
    · rintro ⟨q | q, z⟩
      · exact q
      · exact absurd q z
    · intro q
      exact ⟨.inl q, fun z => hr (by rw [← z]; exact q)⟩
  have := mask_wo ur ui (uni_mem.mpr (.inr (List.mem_singleton.mpr rfl)))
  rw [e] at this
  omega
/-- the chain that is drawn, what is left -/
structure Cw (many : Nat) (n : Nat) (l : List Int) (cs : List (List Int)) (left : List Int) : Prop where
  ch : Ch many l cs
  len : cs.length = n + 1
  last : cs[n]? = some l
  nd : left.Nodup
  mem : ∀ r, r ∈ left ↔ (0 ≤ r ∧ r < many) ∧ r ∉ l
  ll : left.length + n = many
theorem cw_0 (many : Nat) : Cw many 0 [] [[]] (full many) := ⟨.nil, rfl, rfl, full_nodup many, fun r => by rw [full_mem]; simp, by rw [full_len]; rfl⟩
theorem cw_step {many n : Nat} {l : List Int} {cs : List (List Int)} {left : List Int} (w : Cw many n l cs left) {i : Nat} {r : Int} (hi : left[i]? = some r) : Cw many (n + 1) (uni l [r]) (cs ++ [uni l [r]]) (left.eraseIdx i) := by
  have hr := (w.mem r).mp (List.mem_of_getElem? hi)
  obtain ⟨e1, e2, e3⟩ := nodup_erase w.nd hi
  have hl := (List.getElem?_eq_some_iff.mp hi).1
  refine ⟨w.ch.snoc hr.2 hr.1.1 hr.1.2, by rw [List.length_append, w.len]; rfl, ?_, e1, fun q => ?_, ?_⟩
  · rw [List.getElem?_append_right (by rw [w.len]; omega), w.len]
    simp
  · rw [uni_mem, List.mem_singleton]
    constructor
    · intro hq
      have := (w.mem q).mp (e3 q hq)
      refine ⟨this.1, fun z => ?_⟩
      rcases z with z | z
      · exact this.2 z
      · exact e2 (by rw [← z]; exact hq)
    · rintro ⟨h1, h2⟩
      have hq : q ∈ left := (w.mem q).mpr ⟨h1, fun z => h2 (.inl z)⟩
      have q2 : (r :: left.eraseIdx i).Perm left := by
        rw [← (List.getElem?_eq_some_iff.mp hi).2]
        exact perm_erase left i hl
      rcases List.mem_cons.mp (q2.mem_iff.mpr hq) with z | z
      · exact absurd (.inr z) h2
      · exact z
  · have := w.ll
    rw [List.length_eraseIdx_of_lt hl]
    omega
theorem cw_end {many : Nat} {l : List Int} {cs : List (List Int)} {left : List Int} (w : Cw many many l cs left) : l = full many := by
  have e : left = [] := List.length_eq_zero_iff.mp (by have := w.ll; omega)
  have f := w.ch.f
  refine inc_ext f.li (full_inc many) fun i => ⟨fun h => full_mem.mpr (f.lr i h), fun h => ?_⟩
  by_cases c : i ∈ l
  · exact c
  · have := (w.mem i).mpr ⟨full_mem.mp h, c⟩
    rw [e] at this
    cases this
def FamS (many : Nat) (count : Int) (a : Addr) (kvs : List (Key × T)) (tp : List T) (d4 d5 d6 d7 d8 d9 d10 : TL.Slot) : S := ⟨[.fr (.adr a), .fr (.int many), .fr (.int count), .ow (.dk kvs), d4, d5, d6, d7, d8, d9, d10, .un, .un], some (a, tp)⟩
def NO (d : TL.Slot) : Prop := ∀ c, d ≠ .ow c
theorem no_un : NO .un := fun _ h => by cases h
theorem no_fr {t : T} : NO (.fr t) := fun _ h => by cases h
theorem r__law_family : ∀ a ts tp k, P__law_family ts tp k → x__law_family (enT a k) (stT 13 a tp ts) := by
  rintro a ts tp k ⟨many, count, b, rfl, m1, m6, c1, c6, htp, hb, hk⟩
  have Mx' : Mx = 1099511627776 := rfl
  have h6 : (6 : Nat) ≤ sizeLine := by rw [sizeLine_eq]; omega
  have h1 : (1 : Nat) ≤ sizeLine := by rw [sizeLine_eq]; omega
  simp only [x__law_family, stT_ds]
  simp [-e_seq]
  rw [e_seq]
  simp [-e_seq]
  rw [e_seq]
  simp [-e_seq]
  refine ⟨by rw [sizeLine_eq]; omega, ?_⟩
  refine seq_gen (fun s => ∃ (kvs : List (Key × T)) (ks : List Int) (tp' : List T) (d4 d5 d6 d7 d8 d9 d10 : TL.Slot), s = FamS many count a kvs tp' d4 d5 d6 d7 d8 d9 d10 ∧ NO d9 ∧ kvs.map (·.1) = ks.map Sum.inl ∧ Gr many ks ∧ maskZ (full many) ∈ ks ∧ TapeOk (b + 40) tp') (fun R hR => ?_) ?_
  · refine for_ov (ts := rgT 0 count) (fun n s => ∃ (kvs : List (Key × T)) (ks : List Int) (tp' : List T) (d4 d5 d6 d7 d8 d9 d10 : TL.Slot), s = FamS many count a kvs tp' d4 d5 d6 d7 d8 d9 d10 ∧ NO d9 ∧ kvs.map (·.1) = ks.map Sum.inl ∧ Gr many ks ∧ (1 ≤ n → maskZ (full many) ∈ ks) ∧ TapeOk (b + 6 * n) tp') ?_ ⟨_, [0], tp, _, _, _, _, _, _, _, rfl, no_un, ?_, gr_0 many, fun h => by omega, htp⟩ ?_ ?_
    · intro k h
      simp
      exact ⟨by omega, by omega, h⟩
    · rfl
    · rintro t x s hx ⟨kvs, ks, tp', d4, d5, d6, d7, d8, d9, d10, rfl, nd9, hks, hg, hf, htp'⟩ N hN
      obtain ⟨rfl, hn⟩ := rgT_get hx
      simp only [FamS]
      simp [-e_seq]
      rw [e_seq]
      simp [-e_seq]
      refine ⟨⟨by omega, by omega⟩, ?_⟩
      rw [rg_full]
      rw [e_seq]
      simp [-e_seq, h1]
      refine seq_gen (fun s => ∃ (l : List Int) (cs : List (List Int)) (left : List Int) (d7 : TL.Slot) (tp2 : List T), s = ⟨[.fr (.adr a), .fr (.int many), .fr (.int count), .ow (.dk kvs), .fr (.int t), .ow (.lst (left.map T.int)), .ow (.lst ((cs.map maskZ).map T.int)), d7, d8, d9, d10, .un, .un], some (a, tp2)⟩ ∧ Cw many many l cs left ∧ TapeOk (b + 6 * (t + 1)) tp2) (fun R2 hR2 => ?_) ?_
      · refine for_ov (ts := rgT 0 many) (fun n s => ∃ (l : List Int) (cs : List (List Int)) (left : List Int) (d7 : TL.Slot) (tp2 : List T), s = ⟨[.fr (.adr a), .fr (.int many), .fr (.int count), .ow (.dk kvs), .fr (.int t), .ow (.lst (left.map T.int)), .ow (.lst ((cs.map maskZ).map T.int)), d7, d8, d9, d10, .un, .un], some (a, tp2)⟩ ∧ Cw many n l cs left ∧ TapeOk (b + 6 * t + n) tp2) ?_ ⟨[], [[]], full many, _, tp', rfl, cw_0 many, htp'⟩ ?_ ?_
        · intro k h
          simp
          exact ⟨by omega, h⟩
        · rintro n x s hx ⟨l, cs, left, d7, tp2, rfl, w, ht2⟩ N2 hN2
          obtain ⟨rfl, hn2⟩ := rgT_get hx
          have ll := w.ll
          have iat : atI ((cs.map maskZ).map T.int) (n : Int) = some (.int (maskZ l)) := by
            refine atI_of (by omega) ?_
            rw [show (n : Int).toNat = n by omega, List.getElem?_map, List.getElem?_map, w.last]
            rfl
          generalize hms : cs.map maskZ = ms at iat
          have lms : ms.length = n + 1 := by rw [← hms, List.length_map, w.len]
          simp [iat, h6]
          refine ⟨(left.length : Int), b + 6 * t + n, rfl, ht2, by omega, by omega, fun q tp3 q0 q1 ht3 => ?_⟩
          simp
          have q2 : q < left.length := by omega
          have hq : left[q.toNat]? = some left[q.toNat] := List.getElem?_eq_getElem (by omega)
          generalize left[q.toNat] = r at hq
          have hr := (w.mem r).mp (List.mem_of_getElem? hq)
          refine ⟨by rw [sizeLine_eq]; omega, q.toNat, ixN_of q0 q2, .int r, ⟨r, hq, rfl⟩, ?_⟩
          have f := w.ch.f
          have ib := bit_at (r := r) hr.1.1 (by omega)
          refine ⟨_, .lst ib, ?_⟩
          simp
          refine ⟨by rw [sizeLine_eq]; omega, hN2 _ ⟨uni l [r], cs ++ [uni l [r]], left.eraseIdx q.toNat, .fr (.int n), tp3, ?_, cw_step w hq, ht3⟩⟩
          rw [erase_map, List.map_append, List.map_append, hms, List.map_singleton, List.map_singleton, mask_snoc (inr6 m6 f.lr) f.li hr.2 hr.1.1 (by omega)]
        · rintro s ⟨l, cs, left, d7, tp2, rfl, w, ht2⟩
          rw [rgT_len, show ((many : Int) - 0).toNat = many by omega] at w ht2
          exact hR2 _ ⟨l, cs, left, d7, tp2, rfl, w, ht2.mono (by omega)⟩
      · rintro s ⟨l, cs, left, d7, tp2, rfl, w, ht2⟩
        have f := w.ch.f
        have mc : ∀ b ∈ cs.map maskZ, Mk many b := fun b hb => by
          obtain ⟨c, hc, rfl⟩ := List.mem_map.mp hb
          exact ⟨c, (f.hi c hc).1, (f.hi c hc).2, rfl⟩
        have fin : ∀ ks', ks'.Nodup → (∀ m, m ∈ ks' ↔ m ∈ ks ∨ ∃ a ∈ srt ks, ∃ b ∈ cs.map maskZ, m = Builtin.bitOr a b) → Gr many ks' ∧ maskZ (full many) ∈ ks' := fun ks' nd h => by
          have := gr_next m6 hg w.ch nd fun m => (h m).trans (by simp only [(srt_perm ks).mem_iff])
          rw [cw_end w] at this
          exact this
        have mka : ∀ m ∈ srt ks, Mk many m := fun m hm => hg.mks m ((srt_perm ks).mem_iff.mp hm)
        generalize cs.map maskZ = ms at fin mc
        rw [e_seq]
        simp
        refine ⟨ks, hks, ?_⟩
        generalize srt ks = ah at fin mka
        refine for_ov (ts := ah.map T.int) (fun n s => ∃ (kvs' : List (Key × T)) (ks' : List Int) (d9 d10 : TL.Slot), s = ⟨[.fr (.adr a), .fr (.int many), .fr (.int count), .ow (.dk kvs'), .fr (.int t), .ow (.lst (left.map T.int)), .fr (.lst (ms.map T.int)), d7, .fr (.lst (ah.map T.int)), d9, d10, .un, .un], some (a, tp2)⟩ ∧ NO d9 ∧ kvs'.map (·.1) = ks'.map Sum.inl ∧ ks'.Nodup ∧ (∀ m ∈ ks', Mk many m) ∧ ∀ m, m ∈ ks' ↔ m ∈ ks ∨ ∃ a ∈ ah.take n, ∃ b ∈ ms, m = Builtin.bitOr a b) ?_ ⟨kvs, ks, _, _, rfl, nd9, hks, hg.nd, hg.mks, fun m => by simp⟩ ?_ ?_
        · intro k h
          simp
          exact h
        · rintro n x s hx ⟨kvs', ks', d9, d10, rfl, nd9, hks', nd', mk', hm'⟩ N2 hN2
          obtain ⟨A, hA, rfl⟩ := ints_get hx
          simp
          refine for_ov (ts := ms.map T.int) (fun j s => ∃ (kvs' : List (Key × T)) (ks' : List Int) (d10 : TL.Slot), s = ⟨[.fr (.adr a), .fr (.int many), .fr (.int count), .ow (.dk kvs'), .fr (.int t), .ow (.lst (left.map T.int)), .fr (.lst (ms.map T.int)), d7, .fr (.lst (ah.map T.int)), .fr (.int A), d10, .un, .un], some (a, tp2)⟩ ∧ kvs'.map (·.1) = ks'.map Sum.inl ∧ ks'.Nodup ∧ (∀ m ∈ ks', Mk many m) ∧ ∀ m, m ∈ ks' ↔ (m ∈ ks ∨ ∃ a ∈ ah.take n, ∃ b ∈ ms, m = Builtin.bitOr a b) ∨ ∃ b ∈ ms.take j, m = Builtin.bitOr A b) ?_ ⟨kvs', ks', _, rfl, hks', nd', mk', fun m => by rw [hm' m]; simp⟩ ?_ ?_
          · intro k h
            simp
            exact h
          · rintro j x s hx ⟨kvs2, ks2, d10, rfl, hks2, nd2, mk2, hm2⟩ N3 hN3
            obtain ⟨bb, hB, rfl⟩ := ints_get hx
            simp
            have l64 := Gr.len m6 nd2 mk2
            have kl := keys_len hks2
            refine ⟨by rw [sizeLine_eq]; omega, hN3 _ ⟨_, addk ks2 (Builtin.bitOr A bb), _, rfl, put_keys hks2 _ _, nodup_addk nd2, fun m hm => ?_, fun m => ?_⟩⟩
            · rcases mem_addk.mp hm with q | q
              · exact mk2 m q
              · rw [q]
                exact mk_or m6 (mka A (List.mem_of_getElem? hA)) (mc bb (List.mem_of_getElem? hB))
            · rw [mem_addk, hm2 m, take_at hB]
              constructor
              · rintro ((q | q) | q)
                · exact .inl q
                · obtain ⟨b, hb, e⟩ := q
                  exact .inr ⟨b, List.mem_append_left _ hb, e⟩
                · exact .inr ⟨bb, by simp, q⟩
              · rintro (q | ⟨b, hb, e⟩)
                · exact .inl (.inl q)
                · rcases List.mem_append.mp hb with g | g
                  · exact .inl (.inr ⟨b, g, e⟩)
                  · rw [List.mem_singleton.mp g] at e
                    exact .inr e
          · rintro s ⟨kvs2, ks2, d10, rfl, hks2, nd2, mk2, hm2⟩
            rw [List.length_map, List.take_length] at hm2
            refine hN2 _ ⟨kvs2, ks2, _, _, rfl, no_fr, hks2, nd2, mk2, fun m => ?_⟩
            rw [hm2 m, take_at hA]
            constructor
            · rintro ((q | ⟨a, ha, q⟩) | q)
              · exact .inl q
              · exact .inr ⟨a, List.mem_append_left _ ha, q⟩
              · exact .inr ⟨A, by simp, q⟩
            · rintro (q | ⟨a, ha, q⟩)
              · exact .inl (.inl q)
              · rcases List.mem_append.mp ha with g | g
                · exact .inl (.inr ⟨a, g, q⟩)
                · rw [List.mem_singleton.mp g] at q
                  exact .inr q
        · rintro s ⟨kvs', ks', d9, d10, rfl, nd9, hks', nd', mk', hm'⟩
          rw [List.length_map, List.take_length] at hm'
          obtain ⟨g1, g2⟩ := fin ks' nd' hm'
          exact hN _ ⟨kvs', ks', tp2, _, _, _, _, _, _, _, rfl, nd9, hks', g1, fun _ => g2, ht2⟩
    · rintro s ⟨kvs, ks, tp', d4, d5, d6, d7, d8, d9, d10, rfl, nd9, hks, hg, hf, htp'⟩
      rw [rgT_len] at hf htp'
      exact hR _ ⟨kvs, ks, tp', _, _, _, _, _, _, _, rfl, nd9, hks, hg, hf (by omega), htp'.mono (by omega)⟩
  · rintro s ⟨kvs, ks, tp', d4, d5, d6, d7, d8, d9, d10, rfl, nd9, hks, hg, hf, htp'⟩
    simp only [FamS]
    refine seq_lc ?_
    have l64 := Gr.len m6 hg.nd hg.mks
    have lsrt : (srt ks).length = ks.length := (srt_perm ks).length_eq
    have fam := fam_of m6 hg hf
    have first := setsOf_first m6 hg
    have mks : ∀ m ∈ srt ks, 0 ≤ m ∧ m < 64 := fun m hm => mask_lt m6 (hg.mks m ((srt_perm ks).mem_iff.mp hm))
    have hset : (srt ks).map (fun m => tI (setZ many m)) = (setsOf many ks).map tI := by
      unfold setsOf
      rw [List.map_map]
      rfl
    refine lc_all T.int toI1 (fun _ => rfl) (srt ks) (fun m => tI (setZ many m)) ?_ (by simp) (by simpa [NO] using nd9) (sz1000 (by omega)) ?_ ?_
    · intro k h
      simp
      exact ⟨ks, hks, h⟩
    · intro m hm
      have hm := mks m hm
      simp
      refine lc_map T.int toI1 (fun _ => rfl) (full many) (fun r => decide (m / bitv r % 2 = 1)) T.int ?_ (by simp) (by simp) (sz1000 (by rw [full_len]; omega)) ?_ ?_ ?_
      · intro k h
        simp
        rw [rg_full]
        exact ⟨by omega, h⟩
      · intro r hr
        have hr := full_mem.mp hr
        have ib := bit_at (r := r) hr.1 (by omega)
        simp [ib, h6]
        refine div_ok (bitv_pos r) ?_
        have : r = 0 ∨ r = 1 ∨ r = 2 ∨ r = 3 ∨ r = 4 ∨ r = 5 := by omega
        rcases this with rfl | rfl | rfl | rfl | rfl | rfl <;> decide
      · intro r hr _
        simp
      · simp [setZ]
    · rw [hset]
      generalize setsOf many ks = ss at fam first
      simp
      refine ⟨_, (sortTR_l first).mpr rfl, ?_⟩
      simp
      exact hk _ _ fam htp'
end Pf

namespace Pf
open PySem PySem.Spec PyProof.Rows L2
def topS (i : Nat) : Stmt := PySem.Challenge.pw_nowhereworse_k92_spoilt_rows.main.body.getD i (.Pass ⟨0, 0, 0, 0⟩)
def firstDef : Stmt → Stmt
  | .ClassDef _ _ _ (s :: _) _ _ _ _ _ _ _ => s
  | s => s
abbrev s_init : Stmt := firstDef (topS 2)
/-- where a def stands, what it is -/
structure At (K : PySem.W.Frag) (x : Str) (st : Stmt) (f : Addr) (fd : FuncData) : Prop where
  g : PySem.W.nsIn K mainGlobals x = some (some (.ref f))
  f : Fun K x x st f fd
theorem at_mk {K : PySem.W.Frag} {x : Str} {st : Stmt} {f : Addr} {oc : Value} {od an : Option Addr} {osl : Array (Option Value)} {kV doc pm cdv ct : Value} (a : PySem.W.nsIn K mainGlobals x = some (some (.ref f))) (l : K.lookup f = some ⟨oc, od, .func (PySem.W.fnOf x x (defArgs st) (defBody st) (defScope st) .none kV doc pm an cdv ct), osl⟩)
    (c : PySem.W.codeIn K cdv x = true) (k : PySem.W.keepIn K (.ref f) = true) : At K x st f (PySem.W.fnOf x x (defArgs st) (defBody st) (defScope st) .none kV doc pm an cdv ct) := ⟨a, fun_mk l c k⟩
end Pf

namespace Pf
open PySem PySem.Spec PyProof.Rows L2 TL
theorem u65 {k : Nat} {A : Around} (r : Room k A) : A.units + 65 < cLine := by have := r.un; omega
end Pf

namespace Pf
open PySem PySem.Spec PyProof.Rows L2 TL
/-! ### is_integer -/
abbrev s_is_integer : Stmt := topS 4
theorem sc_is_integer : FnScope ["thing"] ["thing"] (defScope s_is_integer) := ⟨rfl, rfl, rfl, by decide +kernel, rfl, by decide +kernel, by decide +kernel⟩
theorem tm_is_integer {P : Program} {w : World} {K : PySem.W.Frag} {mg : Str → Option Value} {base : Heap} {f : Addr} {fd : FuncData} (bt : Bt mg) (F : Fun K "is_integer" "is_integer" s_is_integer f fd) (hm : mg "is_integer" = some (.ref f)) (hb : Binds K fd ["thing"] []) 
    (hx : ∀ ts k, P_is_integer ts k → x_is_integer (enP k) (stP 1 ts)) (len : ∀ ts k, P_is_integer ts k → ts.length = 1) : Cal P w K mg base 1 "is_integer" ["thing"] (spP K P_is_integer) :=
  have nd := sc_is_integer.nd
  cal_P (k := 0) F sc_is_integer hm hb len fun cdv A outer s H vs E hr => ⟨_, x_is_integer, sx_one (sx_ret (px_and (px_isi bt.isinst (px_var 0) bt.int rfl rfl (by decide +kernel)) (px_one (px_not (px_isi bt.isinst (px_var 0) bt.bool rfl rfl (by decide +kernel)))))), fun ts k hp => hx ts k hp⟩
/-! ### integer_within -/
abbrev s_integer_within : Stmt := topS 5
theorem sc_integer_within : FnScope ["thing", "low", "high"] ["thing", "low", "high"] (defScope s_integer_within) := ⟨rfl, rfl, rfl, by decide +kernel, rfl, by decide +kernel, by decide +kernel⟩
theorem tm_integer_within {P : Program} {w : World} {K : PySem.W.Frag} {mg : Str → Option Value} {base : Heap} {f : Addr} {fd : FuncData} (bt : Bt mg) (F : Fun K "integer_within" "integer_within" s_integer_within f fd) (hm : mg "integer_within" = some (.ref f)) (hb : Binds K fd ["thing", "low", "high"] []) (C_is_integer : Cal P w K mg base 1 "is_integer" ["thing"] (spP K P_is_integer))
    (hx : ∀ ts k, P_integer_within ts k → x_integer_within (enP k) (stP 3 ts)) (len : ∀ ts k, P_integer_within ts k → ts.length = 3) : Cal P w K mg base 2 "integer_within" ["thing", "low", "high"] (spP K P_integer_within) :=
  have nd := sc_integer_within.nd
  cal_P (k := 1) F sc_integer_within hm hb len fun cdv A outer s H vs E hr => ⟨_, x_integer_within, sx_one (sx_ret (px_and (px_call C_is_integer (hr.mono (by decide)) rfl (px_cons (px_var 0) (px_nil))) (px_one (px_chain (op_LE (by exact hr.units0)) rs_LE (op_LE (by exact hr.units0)) rs_LE (px_var 1) (px_var 0) (px_var 2))))), fun ts k hp => hx ts k hp⟩
/-! ### are_ascending -/
abbrev s_are_ascending : Stmt := topS 6
theorem sc_are_ascending : FnScope ["thing", "most", "ahead", "number"] ["thing", "most"] (defScope s_are_ascending) := ⟨rfl, rfl, rfl, by decide +kernel, rfl, by decide +kernel, by decide +kernel⟩
theorem tm_are_ascending {P : Program} {w : World} {K : PySem.W.Frag} {mg : Str → Option Value} {base : Heap} {f : Addr} {fd : FuncData} (bt : Bt mg) (F : Fun K "are_ascending" "are_ascending" s_are_ascending f fd) (hm : mg "are_ascending" = some (.ref f)) (hb : Binds K fd ["thing", "most"] []) (C_integer_within : Cal P w K mg base 2 "integer_within" ["thing", "low", "high"] (spP K P_integer_within))
    (hx : ∀ ts k, P_are_ascending ts k → x_are_ascending (enP k) (stP 4 ts)) (len : ∀ ts k, P_are_ascending ts k → ts.length = 2) : Cal P w K mg base 3 "are_ascending" ["thing", "most"] (spP K P_are_ascending) :=
  have nd := sc_are_ascending.nd
  cal_P (k := 2) F sc_are_ascending hm hb len fun cdv A outer s H vs E hr => ⟨_, x_are_ascending, sx_cons (sx_if (pb_not (pb_tru (px_isi bt.isinst (px_var 0) bt.tuple rfl rfl (by decide +kernel)))) (sx_one (sx_ret (px_bl))) (sx_nil))
  (sx_cons (sx_set (i := 2) nd rfl (by first | exact Or.inl rfl | exact Or.inr rfl) (px_neg (px_int)))
  (sx_cons (sx_for PassesOwn.never rfl (pix_seq (px_var 0)) (pgx_name (i := 3) nd rfl (by first | exact Or.inl rfl | exact Or.inr rfl)) (sx_cons (sx_if (pb_not (pb_tru (px_call C_integer_within (hr.mono (by decide)) rfl (px_cons (px_var 3) (px_cons (px_add (px_var 2) (px_int)) (px_cons (px_var 1) (px_nil))))))) (sx_one (sx_ret (px_bl))) (sx_nil))
  (sx_one (sx_set (i := 2) nd rfl (by first | exact Or.inl rfl | exact Or.inr rfl) (px_var 3)))))
  (sx_one (sx_ret (px_bl))))), fun ts k hp => hx ts k hp⟩
/-! ### is_nowhere_worse -/
abbrev s_is_nowhere_worse : Stmt := topS 8
theorem sc_is_nowhere_worse : FnScope ["row", "rule", "inside", "other", "number"] ["row", "rule", "inside"] (defScope s_is_nowhere_worse) := ⟨rfl, rfl, rfl, by decide +kernel, rfl, by decide +kernel, by decide +kernel⟩
theorem tm_is_nowhere_worse {P : Program} {w : World} {K : PySem.W.Frag} {mg : Str → Option Value} {base : Heap} {f : Addr} {fd : FuncData} (bt : Bt mg) (F : Fun K "is_nowhere_worse" "is_nowhere_worse" s_is_nowhere_worse f fd) (hm : mg "is_nowhere_worse" = some (.ref f)) (hb : Binds K fd ["row", "rule", "inside"] []) 
    (hx : ∀ ts k, P_is_nowhere_worse ts k → x_is_nowhere_worse (enP k) (stP 5 ts)) (len : ∀ ts k, P_is_nowhere_worse ts k → ts.length = 3) : Cal P w K mg base 1 "is_nowhere_worse" ["row", "rule", "inside"] (spP K P_is_nowhere_worse) :=
  have nd := sc_is_nowhere_worse.nd
  cal_P (k := 0) F sc_is_nowhere_worse hm hb len fun cdv A outer s H vs E hr => ⟨_, x_is_nowhere_worse, sx_cons (sx_if (pb_ge (by exact hr.units0) (px_ix (px_var 0) (px_var 1)) (px_int)) (sx_one (sx_ret (px_bl))) (sx_nil))
  (sx_cons (sx_for PassesOwn.never rfl (pix_enum rfl bt.enumerate (px_cons (px_var 0) (px_nil))) (pgx_two rfl (pg_name (i := 3) nd rfl (by first | exact Or.inl rfl | exact Or.inr rfl)) (pg_name (i := 4) nd rfl (by first | exact Or.inl rfl | exact Or.inr rfl)) (hp := pgs_cons (pg_name (i := 3) nd rfl (by first | exact Or.inl rfl | exact Or.inr rfl)) (pgs_cons (pg_name (i := 4) nd rfl (by first | exact Or.inl rfl | exact Or.inr rfl)) pgs_nil))) (sx_one (sx_if (pb_w (pw_more_and (pb_gt (px_var 4) (px_int)) (pw_last_and (pb_nin (by exact u65 hr) (px_var 3) (px_var 2))))) (sx_one (sx_ret (px_bl))) (sx_nil))))
  (sx_one (sx_ret (px_bl)))), fun ts k hp => hx ts k hp⟩
/-! ### are_row_papers -/
abbrev s_are_row_papers : Stmt := topS 9
theorem sc_are_row_papers : FnScope ["rows", "rules", "inside", "thing", "rule", "number"] ["rows", "rules", "inside", "thing"] (defScope s_are_row_papers) := ⟨rfl, rfl, rfl, by decide +kernel, rfl, by decide +kernel, by decide +kernel⟩
theorem tm_are_row_papers {P : Program} {w : World} {K : PySem.W.Frag} {mg : Str → Option Value} {base : Heap} {f : Addr} {fd : FuncData} (bt : Bt mg) (F : Fun K "are_row_papers" "are_row_papers" s_are_row_papers f fd) (hm : mg "are_row_papers" = some (.ref f)) (hb : Binds K fd ["rows", "rules", "inside", "thing"] []) (C_integer_within : Cal P w K mg base 2 "integer_within" ["thing", "low", "high"] (spP K P_integer_within)) (C_is_nowhere_worse : Cal P w K mg base 1 "is_nowhere_worse" ["row", "rule", "inside"] (spP K P_is_nowhere_worse))
    (hx : ∀ ts k, P_are_row_papers ts k → x_are_row_papers (enP k) (stP 6 ts)) (len : ∀ ts k, P_are_row_papers ts k → ts.length = 4) : Cal P w K mg base 3 "are_row_papers" ["rows", "rules", "inside", "thing"] (spP K P_are_row_papers) :=
  have nd := sc_are_row_papers.nd
  cal_P (k := 2) F sc_are_row_papers hm hb len fun cdv A outer s H vs E hr => ⟨_, x_are_row_papers, sx_cons (sx_if (pb_w (pw_more_or (pb_not (pb_tru (px_isi bt.isinst (px_var 3) bt.tuple rfl rfl (by decide +kernel)))) (pw_last_or (pb_ne (by exact hr.units) (px_len bt.len (px_var 3)) (px_len bt.len (px_var 1)))))) (sx_one (sx_ret (px_bl))) (sx_nil))
  (sx_cons (sx_for PassesOwn.never rfl (pix_zip rfl bt.zip (px_cons (px_var 1) (px_cons (px_var 3) (px_nil))) (RZ.pi_zipA rfl bt.zip (px_cons (px_var 1) (px_cons (px_var 3) (px_nil)) : PAX _ _ _ _).pa)) (pgx_two rfl (pg_name (i := 4) nd rfl (by first | exact Or.inl rfl | exact Or.inr rfl)) (pg_name (i := 5) nd rfl (by first | exact Or.inl rfl | exact Or.inr rfl)) (hp := pgs_cons (pg_name (i := 4) nd rfl (by first | exact Or.inl rfl | exact Or.inr rfl)) (pgs_cons (pg_name (i := 5) nd rfl (by first | exact Or.inl rfl | exact Or.inr rfl)) pgs_nil))) (sx_one (sx_if (pb_w (pw_more_or (pb_not (pb_tru (px_call C_integer_within (hr.mono (by decide)) rfl (px_cons (px_var 5) (px_cons (px_int) (px_cons (px_sub (px_len bt.len (px_var 0)) (px_int)) (px_nil))))))) (pw_last_or (pb_not (pb_tru (px_call C_is_nowhere_worse (hr.mono (by decide)) rfl (px_cons (px_ix (px_var 0) (px_var 5)) (px_cons (px_var 4) (px_cons (px_var 2) (px_nil)))))))))) (sx_one (sx_ret (px_bl))) (sx_nil))))
  (sx_one (sx_ret (px_bl)))), fun ts k hp => hx ts k hp⟩
/-! ### is_row_bar -/
abbrev s_is_row_bar : Stmt := topS 10
theorem sc_is_row_bar : FnScope ["many", "rows", "thing", "rules", "numbers"] ["many", "rows", "thing"] (defScope s_is_row_bar) := ⟨rfl, rfl, rfl, by decide +kernel, rfl, by decide +kernel, by decide +kernel⟩
theorem tm_is_row_bar {P : Program} {w : World} {K : PySem.W.Frag} {mg : Str → Option Value} {base : Heap} {f : Addr} {fd : FuncData} (bt : Bt mg) (F : Fun K "is_row_bar" "is_row_bar" s_is_row_bar f fd) (hm : mg "is_row_bar" = some (.ref f)) (hb : Binds K fd ["many", "rows", "thing"] []) (C_are_ascending : Cal P w K mg base 3 "are_ascending" ["thing", "most"] (spP K P_are_ascending)) (C_are_row_papers : Cal P w K mg base 3 "are_row_papers" ["rows", "rules", "inside", "thing"] (spP K P_are_row_papers))
    (hx : ∀ ts k, P_is_row_bar ts k → x_is_row_bar (enP k) (stP 5 ts)) (len : ∀ ts k, P_is_row_bar ts k → ts.length = 3) : Cal P w K mg base 4 "is_row_bar" ["many", "rows", "thing"] (spP K P_is_row_bar) :=
  have nd := sc_is_row_bar.nd
  cal_P (k := 3) F sc_is_row_bar hm hb len fun cdv A outer s H vs E hr => ⟨_, x_is_row_bar, sx_cons (sx_if (pb_w (pw_more_or (pb_not (pb_tru (px_isi bt.isinst (px_var 2) bt.tuple rfl rfl (by decide +kernel)))) (pw_last_or (pb_ne (by exact hr.units) (px_len bt.len (px_var 2)) (px_int))))) (sx_one (sx_ret (px_bl))) (sx_nil))
  (sx_cons (sx_unp (px_var 2) (pgx_two rfl (pg_name (i := 3) nd rfl (by first | exact Or.inl rfl | exact Or.inr rfl)) (pg_name (i := 4) nd rfl (by first | exact Or.inl rfl | exact Or.inr rfl)) (hp := pgs_cons (pg_name (i := 3) nd rfl (by first | exact Or.inl rfl | exact Or.inr rfl)) (pgs_cons (pg_name (i := 4) nd rfl (by first | exact Or.inl rfl | exact Or.inr rfl)) pgs_nil))))
  (sx_cons (sx_if (pb_w (pw_more_or (pb_not (pb_tru (px_call C_are_ascending (hr.mono (by decide)) rfl (px_cons (px_var 3) (px_cons (px_sub (px_var 0) (px_int)) (px_nil)))))) (pw_last_or (pb_not (pb_tru (px_var 3)))))) (sx_one (sx_ret (px_bl))) (sx_nil))
  (sx_one (sx_ret (px_call C_are_row_papers (hr.mono (by decide)) rfl (px_cons (px_var 1) (px_cons (px_var 3) (px_cons (px_var 3) (px_cons (px_var 4) (px_nil)))))))))), fun ts k hp => hx ts k hp⟩
/-! ### is_fence_set -/
abbrev s_is_fence_set : Stmt := topS 13
theorem sc_is_fence_set : FnScope ["many", "upper", "lower", "thing", "rule"] ["many", "upper", "lower", "thing"] (defScope s_is_fence_set) := ⟨rfl, rfl, rfl, by decide +kernel, rfl, by decide +kernel, by decide +kernel⟩
theorem tm_is_fence_set {P : Program} {w : World} {K : PySem.W.Frag} {mg : Str → Option Value} {base : Heap} {f : Addr} {fd : FuncData} (bt : Bt mg) (F : Fun K "is_fence_set" "is_fence_set" s_is_fence_set f fd) (hm : mg "is_fence_set" = some (.ref f)) (hb : Binds K fd ["many", "upper", "lower", "thing"] []) (C_are_ascending : Cal P w K mg base 3 "are_ascending" ["thing", "most"] (spP K P_are_ascending))
    (hx : ∀ ts k, P_is_fence_set ts k → x_is_fence_set (enP k) (stP 5 ts)) (len : ∀ ts k, P_is_fence_set ts k → ts.length = 4) : Cal P w K mg base 4 "is_fence_set" ["many", "upper", "lower", "thing"] (spP K P_is_fence_set) :=
  have nd := sc_is_fence_set.nd
  cal_P (k := 3) F sc_is_fence_set hm hb len fun cdv A outer s H vs E hr => ⟨_, x_is_fence_set, sx_cons (sx_if (pb_not (pb_tru (px_call C_are_ascending (hr.mono (by decide)) rfl (px_cons (px_var 3) (px_cons (px_sub (px_var 0) (px_int)) (px_nil)))))) (sx_one (sx_ret (px_bl))) (sx_nil))
  (sx_cons (sx_for PassesOwn.never rfl (pix_seq (px_var 3)) (pgx_name (i := 4) nd rfl (by first | exact Or.inl rfl | exact Or.inr rfl)) (sx_one (sx_if (pb_in (by exact u65 hr) (px_var 4) (px_var 1)) (sx_one (sx_ret (px_bl))) (sx_nil))))
  (sx_cons (sx_for PassesOwn.never rfl (pix_seq (px_var 2)) (pgx_name (i := 4) nd rfl (by first | exact Or.inl rfl | exact Or.inr rfl)) (sx_one (sx_if (pb_nin (by exact u65 hr) (px_var 4) (px_var 3)) (sx_one (sx_ret (px_bl))) (sx_nil))))
  (sx_one (sx_ret (px_bl))))), fun ts k hp => hx ts k hp⟩
/-! ### are_sets -/
abbrev s_are_sets : Stmt := topS 16
theorem sc_are_sets : FnScope ["many", "thing", "ahead", "some"] ["many", "thing"] (defScope s_are_sets) := ⟨rfl, rfl, rfl, by decide +kernel, rfl, by decide +kernel, by decide +kernel⟩
theorem tm_are_sets {P : Program} {w : World} {K : PySem.W.Frag} {mg : Str → Option Value} {base : Heap} {f : Addr} {fd : FuncData} (bt : Bt mg) (F : Fun K "are_sets" "are_sets" s_are_sets f fd) (hm : mg "are_sets" = some (.ref f)) (hb : Binds K fd ["many", "thing"] []) (C_are_ascending : Cal P w K mg base 3 "are_ascending" ["thing", "most"] (spP K P_are_ascending))
    (hx : ∀ ts k, P_are_sets ts k → x_are_sets (enP k) (stP 4 ts)) (len : ∀ ts k, P_are_sets ts k → ts.length = 2) : Cal P w K mg base 4 "are_sets" ["many", "thing"] (spP K P_are_sets) :=
  have nd := sc_are_sets.nd
  cal_P (k := 3) F sc_are_sets hm hb len fun cdv A outer s H vs E hr => ⟨_, x_are_sets, sx_cons (sx_if (pb_not (pb_tru (px_isi bt.isinst (px_var 1) bt.tuple rfl rfl (by decide +kernel)))) (sx_one (sx_ret (px_bl))) (sx_nil))
  (sx_cons (sx_set (i := 2) nd rfl (by first | exact Or.inl rfl | exact Or.inr rfl) (px_non))
  (sx_cons (sx_for PassesOwn.never rfl (pix_seq (px_var 1)) (pgx_name (i := 3) nd rfl (by first | exact Or.inl rfl | exact Or.inr rfl)) (sx_cons (sx_if (pb_w (pw_more_or (pb_not (pb_tru (px_call C_are_ascending (hr.mono (by decide)) rfl (px_cons (px_var 3) (px_cons (px_sub (px_var 0) (px_int)) (px_nil)))))) (pw_last_or (pb_w (pw_more_and (pb_isn (px_var 2) (px_non)) (pw_last_and (pb_le (by exact hr.units0) (px_var 3) (px_var 2)))))))) (sx_one (sx_ret (px_bl))) (sx_nil))
  (sx_one (sx_set (i := 2) nd rfl (by first | exact Or.inl rfl | exact Or.inr rfl) (px_var 3)))))
  (sx_one (sx_ret (px_bl))))), fun ts k hp => hx ts k hp⟩
/-! ### union_of -/
abbrev s_union_of : Stmt := topS 17
theorem sc_union_of : FnScope ["one", "other", "rule"] ["one", "other"] (defScope s_union_of) := ⟨rfl, rfl, rfl, by decide +kernel, rfl, by decide +kernel, by decide +kernel⟩
theorem tm_union_of {P : Program} {w : World} {K : PySem.W.Frag} {mg : Str → Option Value} {base : Heap} {f : Addr} {fd : FuncData} (bt : Bt mg) (F : Fun K "union_of" "union_of" s_union_of f fd) (hm : mg "union_of" = some (.ref f)) (hb : Binds K fd ["one", "other"] []) 
    (hx : ∀ ts k, P_union_of ts k → x_union_of (enP k) (stP 3 ts)) (len : ∀ ts k, P_union_of ts k → ts.length = 2) : Cal P w K mg base 1 "union_of" ["one", "other"] (spP K P_union_of) :=
  have nd := sc_union_of.nd
  cal_P (k := 0) F sc_union_of hm hb len fun cdv A outer s H vs E hr => ⟨_, x_union_of, sx_one (sx_ret (px_tuple bt.tuple (px_fz (pn_sortedU bt.sorted (px_add (px_var 0) (px_tuple bt.tuple (px_fz (pn_lc rfl nd (pix_seq (px_var 1)) (blkOk_by (by with_unfolding_all rfl)) (fun _ _ _ _ _ => pg_name (i := 2) nd rfl (by first | exact Or.inl rfl | exact Or.inr rfl)) (fun _ _ _ _ _ => by exact ptx_one (pb_nink (K := K) (by exact u65 hr) (px_var 2) (px_var 0))) (fun _ _ _ _ _ => by exact px_var 2) (inh := ⟨(s, H)⟩))))))))), fun ts k hp => hx ts k hp⟩
/-! ### without -/
abbrev s_without : Stmt := topS 18
theorem sc_without : FnScope ["some", "rule", "other"] ["some", "rule"] (defScope s_without) := ⟨rfl, rfl, rfl, by decide +kernel, rfl, by decide +kernel, by decide +kernel⟩
theorem tm_without {P : Program} {w : World} {K : PySem.W.Frag} {mg : Str → Option Value} {base : Heap} {f : Addr} {fd : FuncData} (bt : Bt mg) (F : Fun K "without" "without" s_without f fd) (hm : mg "without" = some (.ref f)) (hb : Binds K fd ["some", "rule"] []) 
    (hx : ∀ ts k, P_without ts k → x_without (enP k) (stP 3 ts)) (len : ∀ ts k, P_without ts k → ts.length = 2) : Cal P w K mg base 1 "without" ["some", "rule"] (spP K P_without) :=
  have nd := sc_without.nd
  cal_P (k := 0) F sc_without hm hb len fun cdv A outer s H vs E hr => ⟨_, x_without, sx_one (sx_ret (px_tuple bt.tuple (px_fz (pn_lc rfl nd (pix_seq (px_var 0)) (blkOk_by (by with_unfolding_all rfl)) (fun _ _ _ _ _ => pg_name (i := 2) nd rfl (by first | exact Or.inl rfl | exact Or.inr rfl)) (fun _ _ _ _ _ => by exact ptx_one (pb_nek (K := K) (by exact hr.units) (px_var 2) (px_var 1))) (fun _ _ _ _ _ => by exact px_var 2) (inh := ⟨(s, H)⟩))))), fun ts k hp => hx ts k hp⟩
/-! ### family_fault -/
abbrev s_family_fault : Stmt := topS 19
theorem sc_family_fault : FnScope ["many", "thing", "known", "some", "at", "one", "other", "rule"] ["many", "thing"] (defScope s_family_fault) := ⟨rfl, rfl, rfl, by decide +kernel, rfl, by decide +kernel, by decide +kernel⟩
theorem tm_family_fault {P : Program} {w : World} {K : PySem.W.Frag} {mg : Str → Option Value} {base : Heap} {f : Addr} {fd : FuncData} (bt : Bt mg) (F : Fun K "family_fault" "family_fault" s_family_fault f fd) (hm : mg "family_fault" = some (.ref f)) (hb : Binds K fd ["many", "thing"] []) (C_are_sets : Cal P w K mg base 4 "are_sets" ["many", "thing"] (spP K P_are_sets)) (C_union_of : Cal P w K mg base 1 "union_of" ["one", "other"] (spP K P_union_of)) (C_without : Cal P w K mg base 1 "without" ["some", "rule"] (spP K P_without))
    (hx : ∀ ts k, P_family_fault ts k → x_family_fault (enP k) (stP 8 ts)) (len : ∀ ts k, P_family_fault ts k → ts.length = 2) : Cal P w K mg base 5 "family_fault" ["many", "thing"] (spP K P_family_fault) :=
  have nd := sc_family_fault.nd
  cal_P (k := 4) F sc_family_fault hm hb len fun cdv A outer s H vs E hr => ⟨_, x_family_fault, sx_cons (sx_if (pb_not (pb_tru (px_call C_are_sets (hr.mono (by decide)) rfl (px_cons (px_var 0) (px_cons (px_var 1) (px_nil)))))) (sx_one (sx_ret (px_tup (px_cons (px_str) (px_nil))))) (sx_nil))
  (sx_cons (sx_setW (i := 2) nd rfl (by first | exact Or.inl rfl | exact Or.inr rfl) (pn_dcT (by exact u65 hr) rfl nd (pix_seq (px_var 1)) (blkOk_by (by with_unfolding_all rfl)) (fun _ _ _ _ _ => pg_name (i := 3) nd rfl (by first | exact Or.inl rfl | exact Or.inr rfl)) (fun _ _ _ _ _ => pv 3) (fun _ _ _ _ _ => pe_bl)))
  (sx_cons (sx_if (pb_dictTn (by exact u65 hr) (pv 2) (px_tup (px_nil))) (sx_one (sx_ret (px_tup (px_cons (px_str) (px_nil))))) (sx_nil))
  (sx_cons (sx_if (pb_dictTn (by exact u65 hr) (pv 2) (px_tupRg rfl rfl bt.tuple (pr_1 rfl bt.range (px_var 0)))) (sx_one (sx_ret (px_tup (px_cons (px_str) (px_nil))))) (sx_nil))
  (sx_cons (sx_for PassesOwn.never rfl (pix_seq (px_var 1)) (pgx_name (i := 3) nd rfl (by first | exact Or.inl rfl | exact Or.inr rfl)) (sx_one (sx_if (pb_w (pw_more_and (pb_tru (px_var 3)) (pw_last_and (pb_not (pb_tru (px_fz (pn_lc rfl nd (pix_seq (px_var 3)) (blkOk_by (by with_unfolding_all rfl)) (fun _ _ _ _ _ => pg_name (i := 7) nd rfl (by first | exact Or.inl rfl | exact Or.inr rfl)) (fun _ _ _ _ _ => by exact ptx_one (pb_dictT (by exact u65 hr) (pv 2) (px_callk (K := K) C_without (hr.mono (by decide)) rfl (px_cons (px_var 3) (px_cons (px_var 7) (px_nil)))))) (fun _ _ _ _ _ => by exact px_var 7) (inh := ⟨(s, H)⟩)))))))) (sx_one (sx_ret (px_tup (px_cons (px_str) (px_cons (px_var 3) (px_nil)))))) (sx_nil))))
  (sx_cons (sx_for PassesOwn.never rfl (pix_enum rfl bt.enumerate (px_cons (px_var 1) (px_nil))) (pgx_two rfl (pg_name (i := 4) nd rfl (by first | exact Or.inl rfl | exact Or.inr rfl)) (pg_name (i := 5) nd rfl (by first | exact Or.inl rfl | exact Or.inr rfl)) (hp := pgs_cons (pg_name (i := 4) nd rfl (by first | exact Or.inl rfl | exact Or.inr rfl)) (pgs_cons (pg_name (i := 5) nd rfl (by first | exact Or.inl rfl | exact Or.inr rfl)) pgs_nil))) (sx_one (sx_for PassesOwn.never rfl (pix_seq (px_sl (px_var 1) (px_part (px_add (px_var 4) (px_int))) (px_no))) (pgx_name (i := 6) nd rfl (by first | exact Or.inl rfl | exact Or.inr rfl)) (sx_one (sx_if (pb_dictTn (by exact u65 hr) (pv 2) (px_call C_union_of (hr.mono (by decide)) rfl (px_cons (px_var 5) (px_cons (px_var 6) (px_nil))))) (sx_one (sx_ret (px_tup (px_cons (px_str) (px_cons (px_var 5) (px_cons (px_var 6) (px_nil))))))) (sx_nil))))))
  (sx_one (sx_ret (px_non)))))))), fun ts k hp => hx ts k hp⟩
/-! ### _law_tape -/
abbrev s__law_tape : Stmt := topS 21
theorem sc__law_tape : FnScope ["script", "base", "bound", "great", "cells", "cell"] ["script"] (defScope s__law_tape) := ⟨rfl, rfl, rfl, by decide +kernel, rfl, by decide +kernel, by decide +kernel⟩
theorem tm__law_tape {P : Program} {w : World} {K : PySem.W.Frag} {mg : Str → Option Value} {base : Heap} {f : Addr} {fd : FuncData} (bt : Bt mg) (F : Fun K "_law_tape" "_law_tape" s__law_tape f fd) (hm : mg "_law_tape" = some (.ref f)) (hb : Binds K fd ["script"] []) 
    (hx : ∀ ts k, P__law_tape ts k → x__law_tape (enP k) (stP 6 ts)) (len : ∀ ts k, P__law_tape ts k → ts.length = 1) : Cal P w K mg base 1 "_law_tape" ["script"] (spP K P__law_tape) :=
  have nd := sc__law_tape.nd
  cal_P (k := 0) F sc__law_tape hm hb len fun cdv A outer s H vs E hr => ⟨_, x__law_tape, sx_cons (sx_set (i := 1) nd rfl (by first | exact Or.inl rfl | exact Or.inr rfl) (px_pow (px_int) (px_int)))
  (sx_cons (sx_set (i := 2) nd rfl (by first | exact Or.inl rfl | exact Or.inr rfl) (px_mul (px_mul (px_mul (px_mul (px_mul (px_var 1) (px_var 1)) (px_var 1)) (px_var 1)) (px_var 1)) (px_var 1)))
  (sx_cons (sx_set (i := 3) nd rfl (by first | exact Or.inl rfl | exact Or.inr rfl) (px_int))
  (sx_cons (sx_setLc (j := 4) rfl nd rfl rfl (sw_true rfl rfl rfl (by decide +kernel)) (pix_seq (px_sl (px_var 0) (px_no) (px_part (px_int)))) (blkOk_by (by with_unfolding_all rfl)) (fun _ _ _ _ _ => pg_name (i := 5) nd rfl (by first | exact Or.inl rfl | exact Or.inr rfl)) (fun _ _ _ _ _ => by exact ptx_nil) (fun _ _ _ _ _ => by exact px_mod (px_intc bt.int (px_var 5)) (px_int)) (inh := ⟨(s, H)⟩))
  (sx_freeze 4 (sx_cons (sx_for PassesOwn.never rfl (pix_seq (px_sl (px_var 0) (px_no) (px_part (px_int)))) (pgx_name (i := 5) nd rfl (by first | exact Or.inl rfl | exact Or.inr rfl)) (sx_one (sx_if (pb_w (pw_more_and (pb_eq (by exact hr.units) (px_var 3) (px_int)) (pw_last_and (pb_ge (by exact hr.units0) (px_intc bt.int (px_var 5)) (px_int))))) (sx_one (sx_set (i := 3) nd rfl (by first | exact Or.inl rfl | exact Or.inr rfl) (px_mod (px_intc bt.int (px_var 5)) (px_var 2)))) (sx_nil))))
  (sx_one (sx_retW (px_lst (px_cons (px_int) (px_cons (px_var 3) (px_cons (px_add (px_var 4) (px_fz (px_lst (px_cons (px_add (px_mod (px_len bt.len (px_var 0)) (px_int)) (px_int)) (px_nil))))) (px_nil)))))))))))), fun ts k hp => hx ts k hp⟩
/-! ### _law_draw -/
abbrev s__law_draw : Stmt := topS 22
theorem sc__law_draw : FnScope ["tape", "many", "got", "cells", "turn", "cell", "mixed"] ["tape", "many"] (defScope s__law_draw) := ⟨rfl, rfl, rfl, by decide +kernel, rfl, by decide +kernel, by decide +kernel⟩
theorem tm__law_draw {P : Program} {w : World} {K : PySem.W.Frag} {mg : Str → Option Value} {base : Heap} {f : Addr} {fd : FuncData} (bt : Bt mg) (F : Fun K "_law_draw" "_law_draw" s__law_draw f fd) (hm : mg "_law_draw" = some (.ref f)) (hb : Binds K fd ["tape", "many"] []) 
    (hx : ∀ a ts tp k, P__law_draw ts tp k → x__law_draw (enT a k) (stT 7 a tp ts)) (len : ∀ ts tp k, P__law_draw ts tp k → ts.length + 1 = 2) : Cal P w K mg base 1 "_law_draw" ["tape", "many"] (spT K P__law_draw) :=
  have nd := sc__law_draw.nd
  cal_T (k := 0) F sc__law_draw hm hb len fun cdv A outer s H vs E hr => ⟨_, x__law_draw, sx_cons (sx_stoT (pv 0) (px_int) (px_add (px_ixT (pv 0) (px_int)) (px_int)) (ps_asg (px_add (px_ixT (pv 0) (px_int)) (px_int) : PX _ _ _ _).pe (pg_sub (pv 0) (px_int : PX _ _ _ _).pe set_list)))
  (sx_cons (sx_if (pb_lt (px_var 1) (px_int)) (sx_one (sx_ret (px_int))) (sx_nil))
  (sx_cons (sx_if (pb_gt (px_ixT (pv 0) (px_int)) (px_int)) (sx_cons (sx_set (i := 2) nd rfl (by first | exact Or.inl rfl | exact Or.inr rfl) (px_mod (px_intc bt.int (px_ixT (pv 0) (px_int))) (px_var 1)))
  (sx_cons (sx_stoT (pv 0) (px_int) (px_fdiv (px_ixT (pv 0) (px_int)) (px_var 1)) (ps_asg (px_fdiv (px_ixT (pv 0) (px_int)) (px_var 1) : PX _ _ _ _).pe (pg_sub (pv 0) (px_int : PX _ _ _ _).pe set_list)))
  (sx_one (sx_ret (px_var 2))))) (sx_nil))
  (sx_cons (sx_set (i := 3) nd rfl (by first | exact Or.inl rfl | exact Or.inr rfl) (px_ixT (pv 0) (px_int)))
  (sx_cons (sx_set (i := 4) nd rfl (by first | exact Or.inl rfl | exact Or.inr rfl) (px_intc bt.int (px_ixT (pv 0) (px_int))))
  (sx_cons (sx_set (i := 5) nd rfl (by first | exact Or.inl rfl | exact Or.inr rfl) (px_ix (px_var 3) (px_mod (px_var 4) (px_len bt.len (px_var 3)))))
  (sx_cons (sx_set (i := 6) nd rfl (by first | exact Or.inl rfl | exact Or.inr rfl) (px_mod (px_intc bt.int (px_add (px_add (px_mul (px_var 5) (px_int)) (px_mul (px_var 4) (px_int))) (px_int))) (px_int)))
  (sx_cons (sx_set (i := 6) nd rfl (by first | exact Or.inl rfl | exact Or.inr rfl) (px_mod (px_intc bt.int (px_add (px_add (px_mul (px_var 6) (px_int)) (px_mul (px_mul (px_var 4) (px_var 4)) (px_int))) (px_mul (px_var 5) (px_int)))) (px_int)))
  (sx_one (sx_ret (px_mod (px_intc bt.int (px_fdiv (px_var 6) (px_int))) (px_var 1))))))))))), fun a ts tp k hp => hx a ts tp k hp⟩
/-! ### _law_some -/
abbrev s__law_some : Stmt := topS 23
theorem sc__law_some : FnScope ["tape", "pool", "least", "left", "out", "rule", "k"] ["tape", "pool", "least"] (defScope s__law_some) := ⟨rfl, rfl, rfl, by decide +kernel, rfl, by decide +kernel, by decide +kernel⟩
theorem tm__law_some {P : Program} {w : World} {K : PySem.W.Frag} {mg : Str → Option Value} {base : Heap} {f : Addr} {fd : FuncData} (bt : Bt mg) (F : Fun K "_law_some" "_law_some" s__law_some f fd) (hm : mg "_law_some" = some (.ref f)) (hb : Binds K fd ["tape", "pool", "least"] []) (C__law_draw : Cal P w K mg base 1 "_law_draw" ["tape", "many"] (spT K P__law_draw))
    (hx : ∀ a ts tp k, P__law_some ts tp k → x__law_some (enT a k) (stT 7 a tp ts)) (len : ∀ ts tp k, P__law_some ts tp k → ts.length + 1 = 3) : Cal P w K mg base 2 "_law_some" ["tape", "pool", "least"] (spT K P__law_some) :=
  have nd := sc__law_some.nd
  cal_T (k := 1) F sc__law_some hm hb len fun cdv A outer s H vs E hr => ⟨_, x__law_some, sx_cons (sx_setW (i := 3) nd rfl (by first | exact Or.inl rfl | exact Or.inr rfl) (pn_list bt.list (px_var 1)))
  (sx_cons (sx_setW (i := 4) nd rfl (by first | exact Or.inl rfl | exact Or.inr rfl) (px_lst (px_nil)))
  (sx_cons (sx_for PassesOwn.never rfl (pix_seq (px_var 1)) (pgx_name (i := 5) nd rfl (by first | exact Or.inl rfl | exact Or.inr rfl)) (sx_one (sx_if (pb_eq (by exact hr.units) (px_callT C__law_draw (hr.mono (by decide)) rfl (px_cons (px_var 0) (px_cons (px_int) (px_nil)))) (px_int)) (sx_cons (sx_expr (px_app (pv 4) (px_var 5)))
  (sx_one (sx_expr (px_rem (pv 3) (px_var 5))))) (sx_nil))))
  (sx_cons (sx_for PassesOwn.never rfl (pix_range1 rfl bt.range (px_cons (px_var 2) (px_nil))) (pgx_name (i := 6) nd rfl (by first | exact Or.inl rfl | exact Or.inr rfl)) (sx_one (sx_if (pb_w (pw_more_and (pb_lt (px_lenO bt.len (pv 4)) (px_var 2)) (pw_last_and (pb_gt (px_lenO bt.len (pv 3)) (px_int))))) (sx_one (sx_expr (px_app (pv 4) (px_popAt (pv 3) (px_callT C__law_draw (hr.mono (by decide)) rfl (px_cons (px_var 0) (px_cons (px_lenO bt.len (pv 3)) (px_nil)))))))) (sx_nil))))
  (sx_freeze 4 (sx_one (sx_ret (px_tuple bt.tuple (px_fz (pn_sortedU bt.sorted (px_var 4)))))))))), fun a ts tp k hp => hx a ts tp k hp⟩
/-! ### _law_whole -/
abbrev s__law_whole : Stmt := topS 24
theorem sc__law_whole : FnScope ["x"] ["x"] (defScope s__law_whole) := ⟨rfl, rfl, rfl, by decide +kernel, rfl, by decide +kernel, by decide +kernel⟩
theorem tm__law_whole {P : Program} {w : World} {K : PySem.W.Frag} {mg : Str → Option Value} {base : Heap} {f : Addr} {fd : FuncData} (bt : Bt mg) (F : Fun K "_law_whole" "_law_whole" s__law_whole f fd) (hm : mg "_law_whole" = some (.ref f)) (hb : Binds K fd ["x"] []) 
    (hx : ∀ ts k, P__law_whole ts k → x__law_whole (enP k) (stP 1 ts)) (len : ∀ ts k, P__law_whole ts k → ts.length = 1) : Cal P w K mg base 1 "_law_whole" ["x"] (spP K P__law_whole) :=
  have nd := sc__law_whole.nd
  cal_P (k := 0) F sc__law_whole hm hb len fun cdv A outer s H vs E hr => ⟨_, x__law_whole, sx_one (sx_ret (px_and (px_isi bt.isinst (px_var 0) bt.int rfl rfl (by decide +kernel)) (px_one (px_not (px_isi bt.isinst (px_var 0) bt.bool rfl rfl (by decide +kernel)))))), fun ts k hp => hx ts k hp⟩
/-! ### _law_set -/
abbrev s__law_set : Stmt := topS 25
theorem sc__law_set : FnScope ["many", "rules", "place"] ["many", "rules"] (defScope s__law_set) := ⟨rfl, rfl, rfl, by decide +kernel, rfl, by decide +kernel, by decide +kernel⟩
theorem tm__law_set {P : Program} {w : World} {K : PySem.W.Frag} {mg : Str → Option Value} {base : Heap} {f : Addr} {fd : FuncData} (bt : Bt mg) (F : Fun K "_law_set" "_law_set" s__law_set f fd) (hm : mg "_law_set" = some (.ref f)) (hb : Binds K fd ["many", "rules"] []) (C__law_whole : Cal P w K mg base 1 "_law_whole" ["x"] (spP K P__law_whole))
    (hx : ∀ ts k, P__law_set ts k → x__law_set (enP k) (stP 3 ts)) (len : ∀ ts k, P__law_set ts k → ts.length = 2) : Cal P w K mg base 2 "_law_set" ["many", "rules"] (spP K P__law_set) :=
  have nd := sc__law_set.nd
  cal_P (k := 1) F sc__law_set hm hb len fun cdv A outer s H vs E hr => ⟨_, x__law_set, sx_cons (sx_if (pb_not (pb_tru (px_isi bt.isinst (px_var 1) bt.tuple rfl rfl (by decide +kernel)))) (sx_one (sx_ret (px_bl))) (sx_nil))
  (sx_cons (sx_for PassesOwn.never rfl (pix_range1 rfl bt.range (px_cons (px_len bt.len (px_var 1)) (px_nil))) (pgx_name (i := 2) nd rfl (by first | exact Or.inl rfl | exact Or.inr rfl)) (sx_cons (sx_if (pb_w (pw_more_or (pb_not (pb_tru (px_call C__law_whole (hr.mono (by decide)) rfl (px_cons (px_ix (px_var 1) (px_var 2)) (px_nil))))) (pw_more_or (pb_lt (px_ix (px_var 1) (px_var 2)) (px_int)) (pw_last_or (pb_ge (by exact hr.units0) (px_ix (px_var 1) (px_var 2)) (px_var 0)))))) (sx_one (sx_ret (px_bl))) (sx_nil))
  (sx_one (sx_if (pb_w (pw_more_and (pb_gt (px_var 2) (px_int)) (pw_last_and (pb_ge (by exact hr.units0) (px_ix (px_var 1) (px_sub (px_var 2) (px_int))) (px_ix (px_var 1) (px_var 2)))))) (sx_one (sx_ret (px_bl))) (sx_nil)))))
  (sx_one (sx_ret (px_bl)))), fun ts k hp => hx ts k hp⟩
/-! ### _law_paper -/
abbrev s__law_paper : Stmt := topS 26
theorem sc__law_paper : FnScope ["many", "rows", "upper", "lower", "thing", "rules", "numbers", "rule", "place", "number", "row"] ["many", "rows", "upper", "lower", "thing"] (defScope s__law_paper) := ⟨rfl, rfl, rfl, by decide +kernel, rfl, by decide +kernel, by decide +kernel⟩
theorem tm__law_paper {P : Program} {w : World} {K : PySem.W.Frag} {mg : Str → Option Value} {base : Heap} {f : Addr} {fd : FuncData} (bt : Bt mg) (F : Fun K "_law_paper" "_law_paper" s__law_paper f fd) (hm : mg "_law_paper" = some (.ref f)) (hb : Binds K fd ["many", "rows", "upper", "lower", "thing"] []) (C__law_set : Cal P w K mg base 2 "_law_set" ["many", "rules"] (spP K P__law_set)) (C__law_whole : Cal P w K mg base 1 "_law_whole" ["x"] (spP K P__law_whole))
    (hx : ∀ ts k, P__law_paper ts k → x__law_paper (enP k) (stP 11 ts)) (len : ∀ ts k, P__law_paper ts k → ts.length = 5) : Cal P w K mg base 3 "_law_paper" ["many", "rows", "upper", "lower", "thing"] (spP K P__law_paper) :=
  have nd := sc__law_paper.nd
  cal_P (k := 2) F sc__law_paper hm hb len fun cdv A outer s H vs E hr => ⟨_, x__law_paper, sx_cons (sx_if (pb_w (pw_more_or (pb_not (pb_tru (px_isi bt.isinst (px_var 4) bt.tuple rfl rfl (by decide +kernel)))) (pw_last_or (pb_ne (by exact hr.units) (px_len bt.len (px_var 4)) (px_int))))) (sx_one (sx_ret (px_bl))) (sx_nil))
  (sx_cons (sx_set (i := 5) nd rfl (by first | exact Or.inl rfl | exact Or.inr rfl) (px_ix (px_var 4) (px_int)))
  (sx_cons (sx_set (i := 6) nd rfl (by first | exact Or.inl rfl | exact Or.inr rfl) (px_ix (px_var 4) (px_int)))
  (sx_cons (sx_if (pb_w (pw_more_or (pb_not (pb_tru (px_call C__law_set (hr.mono (by decide)) rfl (px_cons (px_var 0) (px_cons (px_var 5) (px_nil)))))) (pw_last_or (pb_not (pb_tru (px_isi bt.isinst (px_var 6) bt.tuple rfl rfl (by decide +kernel))))))) (sx_one (sx_ret (px_bl))) (sx_nil))
  (sx_cons (sx_if (pb_w (pw_more_or (pb_eq (by exact hr.units) (px_len bt.len (px_var 5)) (px_int)) (pw_last_or (pb_ne (by exact hr.units) (px_len bt.len (px_var 6)) (px_len bt.len (px_var 5)))))) (sx_one (sx_ret (px_bl))) (sx_nil))
  (sx_cons (sx_for PassesOwn.never rfl (pix_seq (px_var 3)) (pgx_name (i := 7) nd rfl (by first | exact Or.inl rfl | exact Or.inr rfl)) (sx_one (sx_if (pb_nin (by exact u65 hr) (px_var 7) (px_var 5)) (sx_one (sx_ret (px_bl))) (sx_nil))))
  (sx_cons (sx_for PassesOwn.never rfl (pix_seq (px_var 2)) (pgx_name (i := 7) nd rfl (by first | exact Or.inl rfl | exact Or.inr rfl)) (sx_one (sx_if (pb_in (by exact u65 hr) (px_var 7) (px_var 5)) (sx_one (sx_ret (px_bl))) (sx_nil))))
  (sx_cons (sx_for PassesOwn.never rfl (pix_range1 rfl bt.range (px_cons (px_len bt.len (px_var 5)) (px_nil))) (pgx_name (i := 8) nd rfl (by first | exact Or.inl rfl | exact Or.inr rfl)) (sx_cons (sx_set (i := 9) nd rfl (by first | exact Or.inl rfl | exact Or.inr rfl) (px_ix (px_var 6) (px_var 8)))
  (sx_cons (sx_if (pb_w (pw_more_or (pb_not (pb_tru (px_call C__law_whole (hr.mono (by decide)) rfl (px_cons (px_var 9) (px_nil))))) (pw_more_or (pb_lt (px_var 9) (px_int)) (pw_last_or (pb_ge (by exact hr.units0) (px_var 9) (px_len bt.len (px_var 1))))))) (sx_one (sx_ret (px_bl))) (sx_nil))
  (sx_cons (sx_set (i := 10) nd rfl (by first | exact Or.inl rfl | exact Or.inr rfl) (px_ix (px_var 1) (px_var 9)))
  (sx_cons (sx_if (pb_ge (by exact hr.units0) (px_ix (px_var 10) (px_ix (px_var 5) (px_var 8))) (px_int)) (sx_one (sx_ret (px_bl))) (sx_nil))
  (sx_one (sx_for PassesOwn.never rfl (pix_range1 rfl bt.range (px_cons (px_var 0) (px_nil))) (pgx_name (i := 7) nd rfl (by first | exact Or.inl rfl | exact Or.inr rfl)) (sx_one (sx_if (pb_w (pw_more_and (pb_nin (by exact u65 hr) (px_var 7) (px_var 5)) (pw_more_and (pb_nin (by exact u65 hr) (px_var 7) (px_var 2)) (pw_last_and (pb_gt (px_ix (px_var 10) (px_var 7)) (px_int)))))) (sx_one (sx_ret (px_bl))) (sx_nil))))))))))
  (sx_one (sx_ret (px_bl)))))))))), fun ts k hp => hx ts k hp⟩
/-! ### _law_made -/
abbrev s__law_made : Stmt := topS 27
theorem sc__law_made : FnScope ["tape", "many", "upper", "rules", "size", "made", "rule", "row", "other", "part"] ["tape", "many", "upper", "rules", "size"] (defScope s__law_made) := ⟨rfl, rfl, rfl, by decide +kernel, rfl, by decide +kernel, by decide +kernel⟩
theorem tm__law_made {P : Program} {w : World} {K : PySem.W.Frag} {mg : Str → Option Value} {base : Heap} {f : Addr} {fd : FuncData} (bt : Bt mg) (F : Fun K "_law_made" "_law_made" s__law_made f fd) (hm : mg "_law_made" = some (.ref f)) (hb : Binds K fd ["tape", "many", "upper", "rules", "size"] []) (C__law_draw : Cal P w K mg base 1 "_law_draw" ["tape", "many"] (spT K P__law_draw))
    (hx : ∀ a ts tp k, P__law_made ts tp k → x__law_made (enT a k) (stT 10 a tp ts)) (len : ∀ ts tp k, P__law_made ts tp k → ts.length + 1 = 5) : Cal P w K mg base 2 "_law_made" ["tape", "many", "upper", "rules", "size"] (spT K P__law_made) :=
  have nd := sc__law_made.nd
  cal_T (k := 1) F sc__law_made hm hb len fun cdv A outer s H vs E hr => ⟨_, x__law_made, sx_cons (sx_setW (i := 5) nd rfl (by first | exact Or.inl rfl | exact Or.inr rfl) (px_lst (px_nil)))
  (sx_cons (sx_for PassesOwn.never rfl (pix_seq (px_var 3)) (pgx_name (i := 6) nd rfl (by first | exact Or.inl rfl | exact Or.inr rfl)) (sx_cons (sx_setW (i := 7) nd rfl (by first | exact Or.inl rfl | exact Or.inr rfl) (px_lst (px_nil)))
  (sx_cons (sx_for PassesOwn.never rfl (pix_range1 rfl bt.range (px_cons (px_var 1) (px_nil))) (pgx_name (i := 8) nd rfl (by first | exact Or.inl rfl | exact Or.inr rfl)) (sx_cons (sx_set (i := 9) nd rfl (by first | exact Or.inl rfl | exact Or.inr rfl) (px_callT C__law_draw (hr.mono (by decide)) rfl (px_cons (px_var 0) (px_cons (px_add (px_var 4) (px_int)) (px_nil)))))
  (sx_one (sx_if (pb_eq (by exact hr.units) (px_var 8) (px_var 6)) (sx_one (sx_expr (px_app (pv 7) (px_sub (px_neg (px_int)) (px_mod (px_intc bt.int (px_var 9)) (px_var 4)))))) (sx_one (sx_if (pb_in (by exact u65 hr) (px_var 8) (px_var 2)) (sx_one (sx_expr (px_app (pv 7) (px_ix (px_fz (px_lst (px_cons (px_var 9) (px_cons (px_add (px_int) (px_mod (px_intc bt.int (px_var 9)) (px_var 4))) (px_cons (px_neg (px_var 9)) (px_nil)))))) (px_callT C__law_draw (hr.mono (by decide)) rfl (px_cons (px_var 0) (px_cons (px_int) (px_nil)))))))) (sx_one (sx_if (pb_in (by exact u65 hr) (px_var 8) (px_var 3)) (sx_one (sx_expr (px_app (pv 7) (px_ix (px_fz (px_lst (px_cons (px_var 9) (px_cons (px_neg (px_var 9)) (px_cons (px_int) (px_nil)))))) (px_callT C__law_draw (hr.mono (by decide)) rfl (px_cons (px_var 0) (px_cons (px_int) (px_nil)))))))) (sx_one (sx_expr (px_app (pv 7) (px_ix (px_fz (px_lst (px_cons (px_int) (px_cons (px_neg (px_var 9)) (px_nil))))) (px_callT C__law_draw (hr.mono (by decide)) rfl (px_cons (px_var 0) (px_cons (px_int) (px_nil))))))))))))))))
  (sx_freeze 7 (sx_one (sx_expr (px_app (pv 5) (px_tuple bt.tuple (px_var 7)))))))))
  (sx_one (sx_retO (pv 5)))), fun a ts tp k hp => hx a ts tp k hp⟩
/-! ### _law_world -/
abbrev s__law_world : Stmt := topS 28
theorem sc__law_world : FnScope ["tape", "many", "upper", "rules", "size", "total", "first", "second", "rows", "at", "row", "left", "nothing", "numbers", "rule"] ["tape", "many", "upper", "rules"] (defScope s__law_world) := ⟨rfl, rfl, rfl, by decide +kernel, rfl, by decide +kernel, by decide +kernel⟩
theorem tm__law_world {P : Program} {w : World} {K : PySem.W.Frag} {mg : Str → Option Value} {base : Heap} {f : Addr} {fd : FuncData} (bt : Bt mg) (F : Fun K "_law_world" "_law_world" s__law_world f fd) (hm : mg "_law_world" = some (.ref f)) (hb : Binds K fd ["tape", "many", "upper", "rules"] []) (C__law_draw : Cal P w K mg base 1 "_law_draw" ["tape", "many"] (spT K P__law_draw)) (C__law_made : Cal P w K mg base 2 "_law_made" ["tape", "many", "upper", "rules", "size"] (spT K P__law_made))
    (hx : ∀ a ts tp k, P__law_world ts tp k → x__law_world (enT a k) (stT 15 a tp ts)) (len : ∀ ts tp k, P__law_world ts tp k → ts.length + 1 = 4) : Cal P w K mg base 3 "_law_world" ["tape", "many", "upper", "rules"] (spT K P__law_world) :=
  have nd := sc__law_world.nd
  cal_T (k := 2) F sc__law_world hm hb len fun cdv A outer s H vs E hr => ⟨_, x__law_world, sx_cons (sx_set (i := 4) nd rfl (by first | exact Or.inl rfl | exact Or.inr rfl) (px_ix (px_fz (px_lst (px_cons (px_int) (px_cons (px_int) (px_cons (px_int) (px_cons (px_int) (px_nil))))))) (px_callT C__law_draw (hr.mono (by decide)) rfl (px_cons (px_var 0) (px_cons (px_int) (px_nil))))))
  (sx_cons (sx_set (i := 5) nd rfl (by first | exact Or.inl rfl | exact Or.inr rfl) (px_ix (px_fz (px_lst (px_cons (px_int) (px_cons (px_int) (px_cons (px_int) (px_cons (px_int) (px_nil))))))) (px_callT C__law_draw (hr.mono (by decide)) rfl (px_cons (px_var 0) (px_cons (px_int) (px_nil))))))
  (sx_cons (sx_set (i := 6) nd rfl (by first | exact Or.inl rfl | exact Or.inr rfl) (px_callT C__law_draw (hr.mono (by decide)) rfl (px_cons (px_var 0) (px_cons (px_int) (px_nil)))))
  (sx_cons (sx_set (i := 7) nd rfl (by first | exact Or.inl rfl | exact Or.inr rfl) (px_add (px_int) (px_callT C__law_draw (hr.mono (by decide)) rfl (px_cons (px_var 0) (px_cons (px_int) (px_nil))))))
  (sx_cons (sx_setW (i := 8) nd rfl (by first | exact Or.inl rfl | exact Or.inr rfl) (px_lst (px_nil)))
  (sx_cons (sx_for PassesOwn.never rfl (pix_range1 rfl bt.range (px_cons (px_var 5) (px_nil))) (pgx_name (i := 9) nd rfl (by first | exact Or.inl rfl | exact Or.inr rfl)) (sx_cons (sx_setLc (j := 10) rfl nd rfl rfl (sw_true rfl rfl rfl (by decide +kernel)) (pix_range1 rfl bt.range (px_cons (px_var 1) (px_nil))) (blkOk_by (by with_unfolding_all rfl)) (fun _ _ _ _ _ => pg_name (i := 14) nd rfl (by first | exact Or.inl rfl | exact Or.inr rfl)) (fun _ _ _ _ _ => by exact ptx_nil) (fun _ _ _ _ _ => by exact px_sub (px_mod (px_intc bt.int (px_addk (K := K) (px_addk (K := K) (px_mul (px_var 6) (px_addk (K := K) (px_var 14) (px_int))) (px_mul (px_mul (px_var 7) (px_addk (K := K) (px_var 9) (px_int))) (px_addk (K := K) (px_mul (px_var 14) (px_int)) (px_int)))) (px_mul (px_var 9) (px_var 9)))) (px_addk (K := K) (px_mul (px_int) (px_var 4)) (px_int))) (px_var 4)) (inh := ⟨(s, H)⟩))
  (sx_freeze 10 (sx_one (sx_expr (px_app (pv 8) (px_tuple bt.tuple (px_var 10))))))))
  (sx_cons (sx_setW (i := 11) nd rfl (by first | exact Or.inl rfl | exact Or.inr rfl) (pn_listRg rfl rfl bt.list (pr_1 rfl bt.range (px_var 5))))
  (sx_cons (sx_set (i := 12) nd rfl (by first | exact Or.inl rfl | exact Or.inr rfl) (px_popAt (pv 11) (px_callT C__law_draw (hr.mono (by decide)) rfl (px_cons (px_var 0) (px_cons (px_lenO bt.len (pv 11)) (px_nil))))))
  (sx_cons (sx_sto (pv 8) (px_var 12) (px_tuple bt.tuple (px_mul (px_fz (px_lst (px_cons (px_int) (px_nil)))) (px_var 1))) (ps_asg (px_tuple bt.tuple (px_mul (px_fz (px_lst (px_cons (px_int) (px_nil)))) (px_var 1)) : PX _ _ _ _).pe (pg_sub (pv 8) (px_var 12 : PX _ _ _ _).pe set_list)))
  (sx_cons (sx_setW (i := 13) nd rfl (by first | exact Or.inl rfl | exact Or.inr rfl) (px_lst (px_nil)))
  (sx_cons (sx_for PassesOwn.never rfl (pix_seq (px_callT C__law_made (hr.mono (by decide)) rfl (px_cons (px_var 0) (px_cons (px_var 1) (px_cons (px_var 2) (px_cons (px_var 3) (px_cons (px_var 4) (px_nil)))))))) (pgx_name (i := 10) nd rfl (by first | exact Or.inl rfl | exact Or.inr rfl)) (sx_cons (sx_set (i := 9) nd rfl (by first | exact Or.inl rfl | exact Or.inr rfl) (px_popAt (pv 11) (px_ix (px_fz (px_lst (px_cons (px_int) (px_cons (px_sub (px_lenO bt.len (pv 11)) (px_int)) (px_cons (px_callT C__law_draw (hr.mono (by decide)) rfl (px_cons (px_var 0) (px_cons (px_lenO bt.len (pv 11)) (px_nil)))) (px_nil)))))) (px_callT C__law_draw (hr.mono (by decide)) rfl (px_cons (px_var 0) (px_cons (px_int) (px_nil)))))))
  (sx_cons (sx_sto (pv 8) (px_var 9) (px_var 10) (ps_asg (px_var 10 : PX _ _ _ _).pe (pg_sub (pv 8) (px_var 9 : PX _ _ _ _).pe set_list)))
  (sx_one (sx_expr (px_app (pv 13) (px_var 9)))))))
  (sx_freeze 8 (sx_freeze 13 (sx_one (sx_retW (px_lst (px_cons (px_tuple bt.tuple (px_var 8)) (px_cons (px_tup (px_cons (px_var 3) (px_cons (px_tuple bt.tuple (px_var 13)) (px_nil)))) (px_cons (px_var 12) (px_nil))))))))))))))))))), fun a ts tp k hp => hx a ts tp k hp⟩
/-! ### _law_turned -/
abbrev s__law_turned : Stmt := topS 29
theorem sc__law_turned : FnScope ["rows", "at", "rule", "value", "out", "row"] ["rows", "at", "rule", "value"] (defScope s__law_turned) := ⟨rfl, rfl, rfl, by decide +kernel, rfl, by decide +kernel, by decide +kernel⟩
theorem tm__law_turned {P : Program} {w : World} {K : PySem.W.Frag} {mg : Str → Option Value} {base : Heap} {f : Addr} {fd : FuncData} (bt : Bt mg) (F : Fun K "_law_turned" "_law_turned" s__law_turned f fd) (hm : mg "_law_turned" = some (.ref f)) (hb : Binds K fd ["rows", "at", "rule", "value"] []) 
    (hx : ∀ ts k, P__law_turned ts k → x__law_turned (enP k) (stP 6 ts)) (len : ∀ ts k, P__law_turned ts k → ts.length = 4) : Cal P w K mg base 1 "_law_turned" ["rows", "at", "rule", "value"] (spP K P__law_turned) :=
  have nd := sc__law_turned.nd
  cal_P (k := 0) F sc__law_turned hm hb len fun cdv A outer s H vs E hr => ⟨_, x__law_turned, sx_cons (sx_setW (i := 4) nd rfl (by first | exact Or.inl rfl | exact Or.inr rfl) (pn_list bt.list (px_var 0)))
  (sx_cons (sx_setW (i := 5) nd rfl (by first | exact Or.inl rfl | exact Or.inr rfl) (pn_list bt.list (px_ixO (pv 4) (px_var 1))))
  (sx_cons (sx_sto (pv 5) (px_var 2) (px_var 3) (ps_asg (px_var 3 : PX _ _ _ _).pe (pg_sub (pv 5) (px_var 2 : PX _ _ _ _).pe set_list)))
  (sx_freeze 5 (sx_cons (sx_sto (pv 4) (px_var 1) (px_tuple bt.tuple (px_var 5)) (ps_asg (px_tuple bt.tuple (px_var 5) : PX _ _ _ _).pe (pg_sub (pv 4) (px_var 1 : PX _ _ _ _).pe set_list)))
  (sx_freeze 4 (sx_one (sx_ret (px_tuple bt.tuple (px_var 4))))))))), fun ts k hp => hx ts k hp⟩
/-! ### _law_spoilt -/
abbrev s__law_spoilt : Stmt := topS 30
theorem sc__law_spoilt : FnScope ["tape", "many", "total", "paper", "nothing", "rules", "numbers", "place", "out", "number", "bent", "fresh", "rule", "wide", "spot"] ["tape", "many", "total", "paper", "nothing"] (defScope s__law_spoilt) := ⟨rfl, rfl, rfl, by decide +kernel, rfl, by decide +kernel, by decide +kernel⟩
theorem tm__law_spoilt {P : Program} {w : World} {K : PySem.W.Frag} {mg : Str → Option Value} {base : Heap} {f : Addr} {fd : FuncData} (bt : Bt mg) (F : Fun K "_law_spoilt" "_law_spoilt" s__law_spoilt f fd) (hm : mg "_law_spoilt" = some (.ref f)) (hb : Binds K fd ["tape", "many", "total", "paper", "nothing"] []) (C__law_draw : Cal P w K mg base 1 "_law_draw" ["tape", "many"] (spT K P__law_draw))
    (hx : ∀ a ts tp k, P__law_spoilt ts tp k → x__law_spoilt (enT a k) (stT 15 a tp ts)) (len : ∀ ts tp k, P__law_spoilt ts tp k → ts.length + 1 = 5) : Cal P w K mg base 2 "_law_spoilt" ["tape", "many", "total", "paper", "nothing"] (spT K P__law_spoilt) :=
  have nd := sc__law_spoilt.nd
  cal_T (k := 1) F sc__law_spoilt hm hb len fun cdv A outer s H vs E hr => ⟨_, x__law_spoilt, sx_cons (sx_set (i := 5) nd rfl (by first | exact Or.inl rfl | exact Or.inr rfl) (px_ix (px_var 3) (px_int)))
  (sx_cons (sx_set (i := 6) nd rfl (by first | exact Or.inl rfl | exact Or.inr rfl) (px_ix (px_var 3) (px_int)))
  (sx_cons (sx_set (i := 7) nd rfl (by first | exact Or.inl rfl | exact Or.inr rfl) (px_callT C__law_draw (hr.mono (by decide)) rfl (px_cons (px_var 0) (px_cons (px_len bt.len (px_var 5)) (px_nil)))))
  (sx_cons (sx_setW (i := 8) nd rfl (by first | exact Or.inl rfl | exact Or.inr rfl) (px_lst (px_nil)))
  (sx_cons (sx_for PassesOwn.never rfl (pix_seq (px_fz (px_lst (px_cons (px_var 4) (px_cons (px_callT C__law_draw (hr.mono (by decide)) rfl (px_cons (px_var 0) (px_cons (px_var 2) (px_nil)))) (px_cons (px_var 2) (px_cons (px_neg (px_int)) (px_cons (px_non) (px_cons (px_bl) (px_cons (px_bl) (px_cons (px_str) (px_cons (px_tup (px_cons (px_ix (px_var 6) (px_var 7)) (px_nil))) (px_cons (px_pow (px_int) (px_int)) (px_nil)))))))))))))) (pgx_name (i := 9) nd rfl (by first | exact Or.inl rfl | exact Or.inr rfl)) (sx_cons (sx_setW (i := 10) nd rfl (by first | exact Or.inl rfl | exact Or.inr rfl) (pn_list bt.list (px_var 6)))
  (sx_cons (sx_sto (pv 10) (px_var 7) (px_var 9) (ps_asg (px_var 9 : PX _ _ _ _).pe (pg_sub (pv 10) (px_var 7 : PX _ _ _ _).pe set_list)))
  (sx_freeze 10 (sx_one (sx_expr (px_app (pv 8) (px_tup (px_cons (px_var 5) (px_cons (px_tuple bt.tuple (px_var 10)) (px_nil)))))))))))
  (sx_cons (sx_expr (px_app (pv 8) (px_tup (px_cons (px_add (px_sl (px_var 5) (px_no) (px_part (px_var 7))) (px_sl (px_var 5) (px_part (px_add (px_var 7) (px_int))) (px_no))) (px_cons (px_add (px_sl (px_var 6) (px_no) (px_part (px_var 7))) (px_sl (px_var 6) (px_part (px_add (px_var 7) (px_int))) (px_no))) (px_nil))))))
  (sx_cons (sx_expr (px_app (pv 8) (px_tup (px_cons (px_add (px_sl (px_var 5) (px_no) (px_part (px_var 7))) (px_sl (px_var 5) (px_part (px_add (px_var 7) (px_int))) (px_no))) (px_cons (px_var 6) (px_nil))))))
  (sx_cons (sx_expr (px_app (pv 8) (px_tup (px_cons (px_var 5) (px_cons (px_add (px_sl (px_var 6) (px_no) (px_part (px_var 7))) (px_sl (px_var 6) (px_part (px_add (px_var 7) (px_int))) (px_no))) (px_nil))))))
  (sx_cons (sx_expr (px_app (pv 8) (px_tup (px_cons (px_var 5) (px_cons (px_add (px_var 6) (px_tup (px_cons (px_var 4) (px_nil)))) (px_nil))))))
  (sx_cons (sx_expr (px_app (pv 8) (px_tup (px_cons (px_var 5) (px_cons (px_add (px_var 6) (px_tup (px_cons (px_ix (px_var 6) (px_var 7)) (px_nil)))) (px_nil))))))
  (sx_cons (sx_expr (px_app (pv 8) (px_tup (px_cons (px_rev (px_var 5)) (px_cons (px_rev (px_var 6)) (px_nil))))))
  (sx_cons (sx_expr (px_app (pv 8) (px_tup (px_cons (px_var 5) (px_cons (px_rev (px_var 6)) (px_nil))))))
  (sx_cons (sx_expr (px_app (pv 8) (px_tup (px_cons (px_add (px_sl (px_var 5) (px_no) (px_part (px_add (px_var 7) (px_int)))) (px_sl (px_var 5) (px_part (px_var 7)) (px_no))) (px_cons (px_add (px_sl (px_var 6) (px_no) (px_part (px_add (px_var 7) (px_int)))) (px_sl (px_var 6) (px_part (px_var 7)) (px_no))) (px_nil))))))
  (sx_cons (sx_expr (px_app (pv 8) (px_tup (px_cons (px_add (px_var 5) (px_tup (px_cons (px_var 1) (px_nil)))) (px_cons (px_add (px_var 6) (px_tup (px_cons (px_ix (px_var 6) (px_var 7)) (px_nil)))) (px_nil))))))
  (sx_cons (sx_expr (px_app (pv 8) (px_tup (px_cons (px_add (px_tup (px_cons (px_neg (px_int)) (px_nil))) (px_var 5)) (px_cons (px_add (px_tup (px_cons (px_ix (px_var 6) (px_int)) (px_nil))) (px_var 6)) (px_nil))))))
  (sx_cons (sx_setLc (j := 11) rfl nd rfl rfl (sw_true rfl rfl rfl (by decide +kernel)) (pix_range1 rfl bt.range (px_cons (px_var 1) (px_nil))) (blkOk_by (by with_unfolding_all rfl)) (fun _ _ _ _ _ => pg_name (i := 12) nd rfl (by first | exact Or.inl rfl | exact Or.inr rfl)) (fun _ _ _ _ _ => by exact ptx_one (pb_nink (K := K) (by exact u65 hr) (px_var 12) (px_var 5))) (fun _ _ _ _ _ => by exact px_var 12) (inh := ⟨(s, H)⟩))
  (sx_freeze 11 (sx_cons (sx_if (pb_gt (px_len bt.len (px_var 11)) (px_int)) (sx_cons (sx_set (i := 12) nd rfl (by first | exact Or.inl rfl | exact Or.inr rfl) (px_ix (px_var 11) (px_callT C__law_draw (hr.mono (by decide)) rfl (px_cons (px_var 0) (px_cons (px_len bt.len (px_var 11)) (px_nil))))))
  (sx_cons (sx_set (i := 13) nd rfl (by first | exact Or.inl rfl | exact Or.inr rfl) (px_fz (pn_sortedU bt.sorted (px_add (px_fz (pn_list bt.list (px_var 5))) (px_fz (px_lst (px_cons (px_var 12) (px_nil))))))))
  (sx_cons (sx_set (i := 14) nd rfl (by first | exact Or.inl rfl | exact Or.inr rfl) (px_idx (px_var 13) (px_var 12)))
  (sx_cons (sx_set (i := 9) nd rfl (by first | exact Or.inl rfl | exact Or.inr rfl) (px_ix (px_fz (px_lst (px_cons (px_var 4) (px_cons (px_callT C__law_draw (hr.mono (by decide)) rfl (px_cons (px_var 0) (px_cons (px_var 2) (px_nil)))) (px_cons (px_ix (px_var 6) (px_var 7)) (px_nil)))))) (px_callT C__law_draw (hr.mono (by decide)) rfl (px_cons (px_var 0) (px_cons (px_int) (px_nil))))))
  (sx_cons (sx_expr (px_app (pv 8) (px_tup (px_cons (px_tuple bt.tuple (px_var 13)) (px_cons (px_add (px_add (px_sl (px_var 6) (px_no) (px_part (px_var 14))) (px_tup (px_cons (px_var 9) (px_nil)))) (px_sl (px_var 6) (px_part (px_var 14)) (px_no))) (px_nil))))))
  (sx_cons (sx_setW (i := 10) nd rfl (by first | exact Or.inl rfl | exact Or.inr rfl) (pn_list bt.list (px_var 5)))
  (sx_cons (sx_sto (pv 10) (px_var 7) (px_var 12) (ps_asg (px_var 12 : PX _ _ _ _).pe (pg_sub (pv 10) (px_var 7 : PX _ _ _ _).pe set_list)))
  (sx_freeze 10 (sx_one (sx_expr (px_app (pv 8) (px_tup (px_cons (px_tuple bt.tuple (px_fz (pn_sortedU bt.sorted (px_var 10)))) (px_cons (px_var 6) (px_nil))))))))))))))) (sx_nil))
  (sx_cons (sx_expr (px_app (pv 8) (px_tup (px_cons (px_tuple bt.tuple (px_fz (pn_lc rfl nd (pix_seq (px_var 5)) (blkOk_by (by with_unfolding_all rfl)) (fun _ _ _ _ _ => pg_name (i := 12) nd rfl (by first | exact Or.inl rfl | exact Or.inr rfl)) (fun _ _ _ _ _ => by exact ptx_nil) (fun _ _ _ _ _ => by exact px_ifExp (pb_eqk (K := K) (by exact hr.units) (px_var 12) (px_int)) (px_bl) (px_var 12)) (inh := ⟨(s, H)⟩)))) (px_cons (px_var 6) (px_nil))))))
  (sx_cons (sx_expr (px_app (pv 8) (px_tup (px_cons (px_tuple bt.tuple (px_fz (pn_lc rfl nd (pix_seq (px_var 5)) (blkOk_by (by with_unfolding_all rfl)) (fun _ _ _ _ _ => pg_name (i := 12) nd rfl (by first | exact Or.inl rfl | exact Or.inr rfl)) (fun _ _ _ _ _ => by exact ptx_nil) (fun _ _ _ _ _ => by exact px_ifExp (pb_eqk (K := K) (by exact hr.units) (px_var 12) (px_int)) (px_bl) (px_var 12)) (inh := ⟨(s, H)⟩)))) (px_cons (px_var 6) (px_nil))))))
  (sx_cons (sx_expr (px_app (pv 8) (px_tup (px_cons (px_tuple bt.tuple (px_fz (pn_lc rfl nd (pix_seq (px_var 5)) (blkOk_by (by with_unfolding_all rfl)) (fun _ _ _ _ _ => pg_name (i := 12) nd rfl (by first | exact Or.inl rfl | exact Or.inr rfl)) (fun _ _ _ _ _ => by exact ptx_nil) (fun _ _ _ _ _ => by exact px_strc bt.str (px_var 12)) (inh := ⟨(s, H)⟩)))) (px_cons (px_var 6) (px_nil))))))
  (sx_cons (sx_expr (px_app (pv 8) (px_tup (px_cons (px_var 5) (px_cons (px_tuple bt.tuple (px_fz (pn_lc rfl nd (pix_seq (px_var 6)) (blkOk_by (by with_unfolding_all rfl)) (fun _ _ _ _ _ => pg_name (i := 9) nd rfl (by first | exact Or.inl rfl | exact Or.inr rfl)) (fun _ _ _ _ _ => by exact ptx_nil) (fun _ _ _ _ _ => by exact px_ifExp (pb_eqk (K := K) (by exact hr.units) (px_var 9) (px_int)) (px_bl) (px_var 9)) (inh := ⟨(s, H)⟩)))) (px_nil))))))
  (sx_cons (sx_expr (px_app (pv 8) (px_tup (px_cons (px_var 5) (px_cons (px_tuple bt.tuple (px_fz (pn_lc rfl nd (pix_seq (px_var 6)) (blkOk_by (by with_unfolding_all rfl)) (fun _ _ _ _ _ => pg_name (i := 9) nd rfl (by first | exact Or.inl rfl | exact Or.inr rfl)) (fun _ _ _ _ _ => by exact ptx_nil) (fun _ _ _ _ _ => by exact px_ifExp (pb_eqk (K := K) (by exact hr.units) (px_var 9) (px_int)) (px_bl) (px_var 9)) (inh := ⟨(s, H)⟩)))) (px_nil))))))
  (sx_cons (sx_expr (px_app (pv 8) (px_tup (px_cons (px_var 5) (px_cons (px_tuple bt.tuple (px_fz (pn_lc rfl nd (pix_seq (px_var 6)) (blkOk_by (by with_unfolding_all rfl)) (fun _ _ _ _ _ => pg_name (i := 9) nd rfl (by first | exact Or.inl rfl | exact Or.inr rfl)) (fun _ _ _ _ _ => by exact ptx_nil) (fun _ _ _ _ _ => by exact px_sub (px_var 9) (px_var 2)) (inh := ⟨(s, H)⟩)))) (px_nil))))))
  (sx_cons (sx_expr (px_app (pv 8) (px_fz (px_lst (px_cons (px_var 5) (px_cons (px_var 6) (px_nil)))))))
  (sx_cons (sx_expr (px_app (pv 8) (px_tup (px_cons (px_fz (pn_list bt.list (px_var 5))) (px_cons (px_var 6) (px_nil))))))
  (sx_cons (sx_expr (px_app (pv 8) (px_tup (px_cons (px_var 5) (px_cons (px_fz (pn_list bt.list (px_var 6))) (px_nil))))))
  (sx_cons (sx_expr (px_app (pv 8) (px_tup (px_cons (px_var 5) (px_cons (px_var 6) (px_cons (px_tup (px_nil)) (px_nil)))))))
  (sx_cons (sx_expr (px_app (pv 8) (px_tup (px_cons (px_var 6) (px_cons (px_var 5) (px_nil))))))
  (sx_cons (sx_expr (px_app (pv 8) (px_tup (px_cons (px_var 5) (px_nil)))))
  (sx_cons (sx_expr (px_app (pv 8) (px_tup (px_cons (px_tup (px_nil)) (px_cons (px_tup (px_nil)) (px_nil))))))
  (sx_cons (sx_expr (px_app (pv 8) (px_tup (px_nil))))
  (sx_cons (sx_expr (px_app (pv 8) (px_non)))
  (sx_cons (sx_expr (px_app (pv 8) (px_var 5)))
  (sx_one (sx_retO (pv 8)))))))))))))))))))))))))))))))))))), fun a ts tp k hp => hx a ts tp k hp⟩
/-! ### _law_said -/
abbrev s__law_said : Stmt := topS 31
theorem sc__law_said : FnScope ["told", "due"] ["told", "due"] (defScope s__law_said) := ⟨rfl, rfl, rfl, by decide +kernel, rfl, by decide +kernel, by decide +kernel⟩
theorem tm__law_said {P : Program} {w : World} {K : PySem.W.Frag} {mg : Str → Option Value} {base : Heap} {f : Addr} {fd : FuncData} (bt : Bt mg) (F : Fun K "_law_said" "_law_said" s__law_said f fd) (hm : mg "_law_said" = some (.ref f)) (hb : Binds K fd ["told", "due"] []) 
    (hx : ∀ ts k, P__law_said ts k → x__law_said (enP k) (stP 2 ts)) (len : ∀ ts k, P__law_said ts k → ts.length = 2) : Cal P w K mg base 1 "_law_said" ["told", "due"] (spP K P__law_said) :=
  have nd := sc__law_said.nd
  cal_P (k := 0) F sc__law_said hm hb len fun cdv A outer s H vs E hr => ⟨_, x__law_said, sx_cons (sx_if (pb_tru (px_var 1)) (sx_one (sx_ret (px_is (px_var 0) (px_bl)))) (sx_nil))
  (sx_one (sx_ret (px_is (px_var 0) (px_bl)))), fun ts k hp => hx ts k hp⟩
/-! ### _law_bars -/
abbrev s__law_bars : Stmt := topS 32
theorem sc__law_bars : FnScope ["tape", "many", "rules", "world", "rows", "paper", "thing", "place", "at", "rule", "value", "bent"] ["tape", "many"] (defScope s__law_bars) := ⟨rfl, rfl, rfl, by decide +kernel, rfl, by decide +kernel, by decide +kernel⟩
theorem tm__law_bars {P : Program} {w : World} {K : PySem.W.Frag} {mg : Str → Option Value} {base : Heap} {f : Addr} {fd : FuncData} (bt : Bt mg) (F : Fun K "_law_bars" "_law_bars" s__law_bars f fd) (hm : mg "_law_bars" = some (.ref f)) (hb : Binds K fd ["tape", "many"] []) (C__law_draw : Cal P w K mg base 1 "_law_draw" ["tape", "many"] (spT K P__law_draw)) (C__law_paper : Cal P w K mg base 3 "_law_paper" ["many", "rows", "upper", "lower", "thing"] (spP K P__law_paper)) (C__law_said : Cal P w K mg base 1 "_law_said" ["told", "due"] (spP K P__law_said)) (C__law_some : Cal P w K mg base 2 "_law_some" ["tape", "pool", "least"] (spT K P__law_some)) (C__law_spoilt : Cal P w K mg base 2 "_law_spoilt" ["tape", "many", "total", "paper", "nothing"] (spT K P__law_spoilt)) (C__law_turned : Cal P w K mg base 1 "_law_turned" ["rows", "at", "rule", "value"] (spP K P__law_turned)) (C__law_world : Cal P w K mg base 3 "_law_world" ["tape", "many", "upper", "rules"] (spT K P__law_world)) (C_is_row_bar : Cal P w K mg base 4 "is_row_bar" ["many", "rows", "thing"] (spP K P_is_row_bar))
    (hx : ∀ a ts tp k, P__law_bars ts tp k → x__law_bars (enT a k) (stT 12 a tp ts)) (len : ∀ ts tp k, P__law_bars ts tp k → ts.length + 1 = 2) : Cal P w K mg base 5 "_law_bars" ["tape", "many"] (spT K P__law_bars) :=
  have nd := sc__law_bars.nd
  cal_T (k := 4) F sc__law_bars hm hb len fun cdv A outer s H vs E hr => ⟨_, x__law_bars, sx_cons (sx_set (i := 2) nd rfl (by first | exact Or.inl rfl | exact Or.inr rfl) (px_callT C__law_some (hr.mono (by decide)) rfl (px_cons (px_var 0) (px_cons (px_fz (pn_listRg rfl rfl bt.list (pr_1 rfl bt.range (px_var 1)))) (px_cons (px_int) (px_nil))))))
  (sx_cons (sx_set (i := 3) nd rfl (by first | exact Or.inl rfl | exact Or.inr rfl) (px_callT C__law_world (hr.mono (by decide)) rfl (px_cons (px_var 0) (px_cons (px_var 1) (px_cons (px_tup (px_nil)) (px_cons (px_var 2) (px_nil)))))))
  (sx_cons (sx_set (i := 4) nd rfl (by first | exact Or.inl rfl | exact Or.inr rfl) (px_ix (px_var 3) (px_int)))
  (sx_cons (sx_set (i := 5) nd rfl (by first | exact Or.inl rfl | exact Or.inr rfl) (px_ix (px_var 3) (px_int)))
  (sx_cons (sx_if (pb_isn (px_call C_is_row_bar (hr.mono (by decide)) rfl (px_cons (px_var 1) (px_cons (px_var 4) (px_cons (px_var 5) (px_nil))))) (px_bl)) (sx_one (sx_ret (px_bl))) (sx_nil))
  (sx_cons (sx_for PassesOwn.never rfl (pix_seq (px_callT C__law_spoilt (hr.mono (by decide)) rfl (px_cons (px_var 0) (px_cons (px_var 1) (px_cons (px_len bt.len (px_var 4)) (px_cons (px_var 5) (px_cons (px_ix (px_var 3) (px_int)) (px_nil)))))))) (pgx_name (i := 6) nd rfl (by first | exact Or.inl rfl | exact Or.inr rfl)) (sx_one (sx_if (pb_not (pb_tru (px_call C__law_said (hr.mono (by decide)) rfl (px_cons (px_call C_is_row_bar (hr.mono (by decide)) rfl (px_cons (px_var 1) (px_cons (px_var 4) (px_cons (px_var 6) (px_nil))))) (px_cons (px_call C__law_paper (hr.mono (by decide)) rfl (px_cons (px_var 1) (px_cons (px_var 4) (px_cons (px_tup (px_nil)) (px_cons (px_tup (px_nil)) (px_cons (px_var 6) (px_nil))))))) (px_nil)))))) (sx_one (sx_ret (px_bl))) (sx_nil))))
  (sx_cons (sx_set (i := 7) nd rfl (by first | exact Or.inl rfl | exact Or.inr rfl) (px_callT C__law_draw (hr.mono (by decide)) rfl (px_cons (px_var 0) (px_cons (px_len bt.len (px_var 2)) (px_nil)))))
  (sx_cons (sx_set (i := 8) nd rfl (by first | exact Or.inl rfl | exact Or.inr rfl) (px_ix (px_ix (px_var 5) (px_int)) (px_var 7)))
  (sx_cons (sx_for PassesOwn.never rfl (pix_range1 rfl bt.range (px_cons (px_var 1) (px_nil))) (pgx_name (i := 9) nd rfl (by first | exact Or.inl rfl | exact Or.inr rfl)) (sx_one (sx_for PassesOwn.never rfl (pix_seq (px_fz (px_lst (px_cons (px_int) (px_cons (px_int) (px_cons (px_neg (px_int)) (px_cons (px_int) (px_cons (px_neg (px_int)) (px_nil))))))))) (pgx_name (i := 10) nd rfl (by first | exact Or.inl rfl | exact Or.inr rfl)) (sx_cons (sx_set (i := 11) nd rfl (by first | exact Or.inl rfl | exact Or.inr rfl) (px_call C__law_turned (hr.mono (by decide)) rfl (px_cons (px_var 4) (px_cons (px_var 8) (px_cons (px_var 9) (px_cons (px_var 10) (px_nil)))))))
  (sx_one (sx_if (pb_not (pb_tru (px_call C__law_said (hr.mono (by decide)) rfl (px_cons (px_call C_is_row_bar (hr.mono (by decide)) rfl (px_cons (px_var 1) (px_cons (px_var 11) (px_cons (px_var 5) (px_nil))))) (px_cons (px_call C__law_paper (hr.mono (by decide)) rfl (px_cons (px_var 1) (px_cons (px_var 11) (px_cons (px_tup (px_nil)) (px_cons (px_tup (px_nil)) (px_cons (px_var 5) (px_nil))))))) (px_nil)))))) (sx_one (sx_ret (px_bl))) (sx_nil)))))))
  (sx_cons (sx_if (pb_isn (px_call C_is_row_bar (hr.mono (by decide)) rfl (px_cons (px_var 1) (px_cons (px_tup (px_nil)) (px_cons (px_var 5) (px_nil))))) (px_bl)) (sx_one (sx_ret (px_bl))) (sx_nil))
  (sx_one (sx_ret (px_is (px_call C_is_row_bar (hr.mono (by decide)) rfl (px_cons (px_var 1) (px_cons (px_var 4) (px_cons (px_var 5) (px_nil))))) (px_bl))))))))))))), fun a ts tp k hp => hx a ts tp k hp⟩
/-! ### _law_word -/
abbrev s__law_word : Stmt := topS 34
theorem sc__law_word : FnScope ["many", "rows", "upper", "lower", "thing", "word", "told"] ["many", "rows", "upper", "lower", "thing", "word"] (defScope s__law_word) := ⟨rfl, rfl, rfl, by decide +kernel, rfl, by decide +kernel, by decide +kernel⟩
theorem tm__law_word {P : Program} {w : World} {K : PySem.W.Frag} {mg : Str → Option Value} {base : Heap} {f : Addr} {fd : FuncData} (bt : Bt mg) (F : Fun K "_law_word" "_law_word" s__law_word f fd) (hm : mg "_law_word" = some (.ref f)) (hb : Binds K fd ["many", "rows", "upper", "lower", "thing", "word"] []) (C__law_step : Cal P w K mg base 6 "_law_step" ["many", "rows", "upper", "lower", "thing"] (spP K P__law_step))
    (hx : ∀ ts k, P__law_word ts k → x__law_word (enP k) (stP 7 ts)) (len : ∀ ts k, P__law_word ts k → ts.length = 6) : Cal P w K mg base 7 "_law_word" ["many", "rows", "upper", "lower", "thing", "word"] (spP K P__law_word) :=
  have nd := sc__law_word.nd
  cal_P (k := 6) F sc__law_word hm hb len fun cdv A outer s H vs E hr => ⟨_, x__law_word, sx_cons (sx_set (i := 6) nd rfl (by first | exact Or.inl rfl | exact Or.inr rfl) (px_call C__law_step (hr.mono (by decide)) rfl (px_cons (px_var 0) (px_cons (px_var 1) (px_cons (px_var 2) (px_cons (px_var 3) (px_cons (px_var 4) (px_nil))))))))
  (sx_one (sx_ret (px_and (px_eq (by exact hr.units) (px_ix (px_var 6) (px_int)) (px_str)) (px_and (px_isi bt.isinst (px_ix (px_var 6) (px_int)) bt.str rfl rfl (by decide +kernel)) (px_one (px_eq (by exact hr.units) (px_ix (px_var 6) (px_int)) (px_var 5))))))), fun ts k hp => hx ts k hp⟩
/-! ### _law_fences -/
abbrev s__law_fences : Stmt := topS 35
theorem sc__law_fences : FnScope ["tape", "many", "upper", "pool", "rules", "lower", "world", "rows", "paper", "things", "more", "wide", "spot", "thing", "place", "at", "rule", "value", "bent", "other", "fewer", "both"] ["tape", "many"] (defScope s__law_fences) := ⟨rfl, rfl, rfl, by decide +kernel, rfl, by decide +kernel, by decide +kernel⟩
theorem tm__law_fences {P : Program} {w : World} {K : PySem.W.Frag} {mg : Str → Option Value} {base : Heap} {f : Addr} {fd : FuncData} (bt : Bt mg) (F : Fun K "_law_fences" "_law_fences" s__law_fences f fd) (hm : mg "_law_fences" = some (.ref f)) (hb : Binds K fd ["tape", "many"] []) (C__law_draw : Cal P w K mg base 1 "_law_draw" ["tape", "many"] (spT K P__law_draw)) (C__law_paper : Cal P w K mg base 3 "_law_paper" ["many", "rows", "upper", "lower", "thing"] (spP K P__law_paper)) (C__law_said : Cal P w K mg base 1 "_law_said" ["told", "due"] (spP K P__law_said)) (C__law_some : Cal P w K mg base 2 "_law_some" ["tape", "pool", "least"] (spT K P__law_some)) (C__law_spoilt : Cal P w K mg base 2 "_law_spoilt" ["tape", "many", "total", "paper", "nothing"] (spT K P__law_spoilt)) (C__law_turned : Cal P w K mg base 1 "_law_turned" ["rows", "at", "rule", "value"] (spP K P__law_turned)) (C__law_word : Cal P w K mg base 7 "_law_word" ["many", "rows", "upper", "lower", "thing", "word"] (spP K P__law_word)) (C__law_world : Cal P w K mg base 3 "_law_world" ["tape", "many", "upper", "rules"] (spT K P__law_world)) (C_is_row_fence : Cal P w K mg base 5 "is_row_fence" ["many", "rows", "upper", "lower", "thing"] (spP K P_is_row_fence))
    (hx : ∀ a ts tp k, P__law_fences ts tp k → x__law_fences (enT a k) (stT 22 a tp ts)) (len : ∀ ts tp k, P__law_fences ts tp k → ts.length + 1 = 2) : Cal P w K mg base 8 "_law_fences" ["tape", "many"] (spT K P__law_fences) :=
  have nd := sc__law_fences.nd
  cal_T (k := 7) F sc__law_fences hm hb len fun cdv A outer s H vs E hr => ⟨_, x__law_fences, sx_cons (sx_set (i := 2) nd rfl (by first | exact Or.inl rfl | exact Or.inr rfl) (px_tup (px_nil)))
  (sx_cons (sx_if (pb_gt (px_var 1) (px_int)) (sx_one (sx_set (i := 2) nd rfl (by first | exact Or.inl rfl | exact Or.inr rfl) (px_sl (px_callT C__law_some (hr.mono (by decide)) rfl (px_cons (px_var 0) (px_cons (px_fz (pn_listRg rfl rfl bt.list (pr_1 rfl bt.range (px_var 1)))) (px_cons (px_int) (px_nil))))) (px_no) (px_part (px_sub (px_var 1) (px_int)))))) (sx_nil))
  (sx_cons (sx_setLc (j := 3) rfl nd rfl rfl (sw_true rfl rfl rfl (by decide +kernel)) (pix_range1 rfl bt.range (px_cons (px_var 1) (px_nil))) (blkOk_by (by with_unfolding_all rfl)) (fun _ _ _ _ _ => pg_name (i := 16) nd rfl (by first | exact Or.inl rfl | exact Or.inr rfl)) (fun _ _ _ _ _ => by exact ptx_one (pb_nink (K := K) (by exact u65 hr) (px_var 16) (px_var 2))) (fun _ _ _ _ _ => by exact px_var 16) (inh := ⟨(s, H)⟩))
  (sx_freeze 3 (sx_cons (sx_set (i := 4) nd rfl (by first | exact Or.inl rfl | exact Or.inr rfl) (px_callT C__law_some (hr.mono (by decide)) rfl (px_cons (px_var 0) (px_cons (px_var 3) (px_cons (px_int) (px_nil))))))
  (sx_cons (sx_set (i := 5) nd rfl (by first | exact Or.inl rfl | exact Or.inr rfl) (px_callT C__law_some (hr.mono (by decide)) rfl (px_cons (px_var 0) (px_cons (px_fz (pn_list bt.list (px_var 4))) (px_cons (px_int) (px_nil))))))
  (sx_cons (sx_set (i := 6) nd rfl (by first | exact Or.inl rfl | exact Or.inr rfl) (px_callT C__law_world (hr.mono (by decide)) rfl (px_cons (px_var 0) (px_cons (px_var 1) (px_cons (px_var 2) (px_cons (px_var 4) (px_nil)))))))
  (sx_cons (sx_set (i := 7) nd rfl (by first | exact Or.inl rfl | exact Or.inr rfl) (px_ix (px_var 6) (px_int)))
  (sx_cons (sx_set (i := 8) nd rfl (by first | exact Or.inl rfl | exact Or.inr rfl) (px_ix (px_var 6) (px_int)))
  (sx_cons (sx_if (pb_isn (px_call C_is_row_fence (hr.mono (by decide)) rfl (px_cons (px_var 1) (px_cons (px_var 7) (px_cons (px_var 2) (px_cons (px_var 5) (px_cons (px_var 8) (px_nil))))))) (px_bl)) (sx_one (sx_ret (px_bl))) (sx_nil))
  (sx_cons (sx_setW (i := 9) nd rfl (by first | exact Or.inl rfl | exact Or.inr rfl) (pn_callT C__law_spoilt (hr.mono (by decide)) rfl (px_cons (px_var 0) (px_cons (px_var 1) (px_cons (px_len bt.len (px_var 7)) (px_cons (px_var 8) (px_cons (px_ix (px_var 6) (px_int)) (px_nil))))))))
  (sx_cons (sx_if (pb_gt (px_len bt.len (px_var 2)) (px_int)) (sx_cons (sx_set (i := 10) nd rfl (by first | exact Or.inl rfl | exact Or.inr rfl) (px_ix (px_var 2) (px_callT C__law_draw (hr.mono (by decide)) rfl (px_cons (px_var 0) (px_cons (px_len bt.len (px_var 2)) (px_nil))))))
  (sx_cons (sx_set (i := 11) nd rfl (by first | exact Or.inl rfl | exact Or.inr rfl) (px_fz (pn_sortedU bt.sorted (px_add (px_fz (pn_list bt.list (px_var 4))) (px_fz (px_lst (px_cons (px_var 10) (px_nil))))))))
  (sx_cons (sx_set (i := 12) nd rfl (by first | exact Or.inl rfl | exact Or.inr rfl) (px_idx (px_var 11) (px_var 10)))
  (sx_one (sx_expr (px_app (pv 9) (px_tup (px_cons (px_tuple bt.tuple (px_var 11)) (px_cons (px_add (px_add (px_sl (px_ix (px_var 8) (px_int)) (px_no) (px_part (px_var 12))) (px_tup (px_cons (px_ix (px_ix (px_var 8) (px_int)) (px_int)) (px_nil)))) (px_sl (px_ix (px_var 8) (px_int)) (px_part (px_var 12)) (px_no))) (px_nil)))))))))) (sx_nil))
  (sx_freeze 9 (sx_cons (sx_for PassesOwn.never rfl (pix_seq (px_var 9)) (pgx_name (i := 13) nd rfl (by first | exact Or.inl rfl | exact Or.inr rfl)) (sx_one (sx_if (pb_not (pb_tru (px_call C__law_said (hr.mono (by decide)) rfl (px_cons (px_call C_is_row_fence (hr.mono (by decide)) rfl (px_cons (px_var 1) (px_cons (px_var 7) (px_cons (px_var 2) (px_cons (px_var 5) (px_cons (px_var 13) (px_nil))))))) (px_cons (px_call C__law_paper (hr.mono (by decide)) rfl (px_cons (px_var 1) (px_cons (px_var 7) (px_cons (px_var 2) (px_cons (px_var 5) (px_cons (px_var 13) (px_nil))))))) (px_nil)))))) (sx_one (sx_ret (px_bl))) (sx_nil))))
  (sx_cons (sx_set (i := 14) nd rfl (by first | exact Or.inl rfl | exact Or.inr rfl) (px_callT C__law_draw (hr.mono (by decide)) rfl (px_cons (px_var 0) (px_cons (px_len bt.len (px_var 4)) (px_nil)))))
  (sx_cons (sx_set (i := 15) nd rfl (by first | exact Or.inl rfl | exact Or.inr rfl) (px_ix (px_ix (px_var 8) (px_int)) (px_var 14)))
  (sx_cons (sx_for PassesOwn.never rfl (pix_range1 rfl bt.range (px_cons (px_var 1) (px_nil))) (pgx_name (i := 16) nd rfl (by first | exact Or.inl rfl | exact Or.inr rfl)) (sx_one (sx_for PassesOwn.never rfl (pix_seq (px_fz (px_lst (px_cons (px_int) (px_cons (px_int) (px_cons (px_neg (px_int)) (px_cons (px_int) (px_nil)))))))) (pgx_name (i := 17) nd rfl (by first | exact Or.inl rfl | exact Or.inr rfl)) (sx_cons (sx_set (i := 18) nd rfl (by first | exact Or.inl rfl | exact Or.inr rfl) (px_call C__law_turned (hr.mono (by decide)) rfl (px_cons (px_var 7) (px_cons (px_var 15) (px_cons (px_var 16) (px_cons (px_var 17) (px_nil)))))))
  (sx_one (sx_if (pb_not (pb_tru (px_call C__law_said (hr.mono (by decide)) rfl (px_cons (px_call C_is_row_fence (hr.mono (by decide)) rfl (px_cons (px_var 1) (px_cons (px_var 18) (px_cons (px_var 2) (px_cons (px_var 5) (px_cons (px_var 8) (px_nil))))))) (px_cons (px_call C__law_paper (hr.mono (by decide)) rfl (px_cons (px_var 1) (px_cons (px_var 18) (px_cons (px_var 2) (px_cons (px_var 5) (px_cons (px_var 8) (px_nil))))))) (px_nil)))))) (sx_one (sx_ret (px_bl))) (sx_nil)))))))
  (sx_cons (sx_for PassesOwn.never rfl (pix_seq (px_fz (px_lst (px_cons (px_callT C__law_some (hr.mono (by decide)) rfl (px_cons (px_var 0) (px_cons (px_var 3) (px_cons (px_int) (px_nil))))) (px_cons (px_tuple bt.tuple (px_var 3)) (px_cons (px_tup (px_cons (px_ix (px_var 3) (px_callT C__law_draw (hr.mono (by decide)) rfl (px_cons (px_var 0) (px_cons (px_len bt.len (px_var 3)) (px_nil))))) (px_nil))) (px_nil))))))) (pgx_name (i := 19) nd rfl (by first | exact Or.inl rfl | exact Or.inr rfl)) (sx_one (sx_if (pb_not (pb_tru (px_call C__law_said (hr.mono (by decide)) rfl (px_cons (px_call C_is_row_fence (hr.mono (by decide)) rfl (px_cons (px_var 1) (px_cons (px_var 7) (px_cons (px_var 2) (px_cons (px_var 19) (px_cons (px_var 8) (px_nil))))))) (px_cons (px_call C__law_paper (hr.mono (by decide)) rfl (px_cons (px_var 1) (px_cons (px_var 7) (px_cons (px_var 2) (px_cons (px_var 19) (px_cons (px_var 8) (px_nil))))))) (px_nil)))))) (sx_one (sx_ret (px_bl))) (sx_nil))))
  (sx_cons (sx_set (i := 20) nd rfl (by first | exact Or.inl rfl | exact Or.inr rfl) (px_sl (px_var 2) (px_no) (px_part (px_callT C__law_draw (hr.mono (by decide)) rfl (px_cons (px_var 0) (px_cons (px_add (px_len bt.len (px_var 2)) (px_int)) (px_nil)))))))
  (sx_cons (sx_if (pb_not (pb_tru (px_call C__law_said (hr.mono (by decide)) rfl (px_cons (px_call C_is_row_fence (hr.mono (by decide)) rfl (px_cons (px_var 1) (px_cons (px_var 7) (px_cons (px_var 20) (px_cons (px_var 5) (px_cons (px_var 8) (px_nil))))))) (px_cons (px_call C__law_paper (hr.mono (by decide)) rfl (px_cons (px_var 1) (px_cons (px_var 7) (px_cons (px_var 20) (px_cons (px_var 5) (px_cons (px_var 8) (px_nil))))))) (px_nil)))))) (sx_one (sx_ret (px_bl))) (sx_nil))
  (sx_cons (sx_set (i := 13) nd rfl (by first | exact Or.inl rfl | exact Or.inr rfl) (px_ix (px_fz (px_lst (px_cons (px_var 8) (px_cons (px_non) (px_cons (px_tup (px_cons (px_var 4) (px_cons (px_tup (px_nil)) (px_nil)))) (px_cons (px_ix (px_var 9) (px_callT C__law_draw (hr.mono (by decide)) rfl (px_cons (px_var 0) (px_cons (px_len bt.len (px_var 9)) (px_nil))))) (px_nil))))))) (px_callT C__law_draw (hr.mono (by decide)) rfl (px_cons (px_var 0) (px_cons (px_int) (px_nil))))))
  (sx_cons (sx_if (pb_w (pw_more_or (pb_not (pb_tru (px_call C__law_word (hr.mono (by decide)) rfl (px_cons (px_var 1) (px_cons (px_var 7) (px_cons (px_var 2) (px_cons (px_tup (px_nil)) (px_cons (px_var 13) (px_cons (px_str) (px_nil)))))))))) (pw_last_or (pb_not (pb_tru (px_call C__law_word (hr.mono (by decide)) rfl (px_cons (px_var 1) (px_cons (px_var 7) (px_cons (px_tup (px_nil)) (px_cons (px_tup (px_nil)) (px_cons (px_var 13) (px_cons (px_str) (px_nil))))))))))))) (sx_one (sx_ret (px_bl))) (sx_nil))
  (sx_cons (sx_set (i := 21) nd rfl (by first | exact Or.inl rfl | exact Or.inr rfl) (px_tuple bt.tuple (px_fz (pn_sortedU bt.sorted (px_add (px_fz (pn_list bt.list (px_var 2))) (px_fz (px_lst (px_cons (px_ix (px_var 5) (px_callT C__law_draw (hr.mono (by decide)) rfl (px_cons (px_var 0) (px_cons (px_len bt.len (px_var 5)) (px_nil))))) (px_nil)))))))))
  (sx_cons (sx_if (pb_w (pw_more_or (pb_not (pb_tru (px_call C__law_word (hr.mono (by decide)) rfl (px_cons (px_var 1) (px_cons (px_var 7) (px_cons (px_var 21) (px_cons (px_var 5) (px_cons (px_var 13) (px_cons (px_str) (px_nil)))))))))) (pw_last_or (pb_not (pb_tru (px_call C__law_word (hr.mono (by decide)) rfl (px_cons (px_var 1) (px_cons (px_var 7) (px_cons (px_var 5) (px_cons (px_var 5) (px_cons (px_var 8) (px_cons (px_str) (px_nil))))))))))))) (sx_one (sx_ret (px_bl))) (sx_nil))
  (sx_one (sx_ret (px_is (px_call C_is_row_fence (hr.mono (by decide)) rfl (px_cons (px_var 1) (px_cons (px_var 7) (px_cons (px_var 2) (px_cons (px_var 5) (px_cons (px_var 8) (px_nil))))))) (px_bl))))))))))))))))))))))))))), fun a ts tp k hp => hx a ts tp k hp⟩
/-! ### _law_mask -/
abbrev s__law_mask : Stmt := topS 36
theorem sc__law_mask : FnScope ["some", "mask", "rule"] ["some"] (defScope s__law_mask) := ⟨rfl, rfl, rfl, by decide +kernel, rfl, by decide +kernel, by decide +kernel⟩
theorem tm__law_mask {P : Program} {w : World} {K : PySem.W.Frag} {mg : Str → Option Value} {base : Heap} {f : Addr} {fd : FuncData} (bt : Bt mg) (F : Fun K "_law_mask" "_law_mask" s__law_mask f fd) (hm : mg "_law_mask" = some (.ref f)) (hb : Binds K fd ["some"] []) 
    (hx : ∀ ts k, P__law_mask ts k → x__law_mask (enP k) (stP 3 ts)) (len : ∀ ts k, P__law_mask ts k → ts.length = 1) : Cal P w K mg base 1 "_law_mask" ["some"] (spP K P__law_mask) :=
  have nd := sc__law_mask.nd
  cal_P (k := 0) F sc__law_mask hm hb len fun cdv A outer s H vs E hr => ⟨_, x__law_mask, sx_cons (sx_set (i := 1) nd rfl (by first | exact Or.inl rfl | exact Or.inr rfl) (px_int))
  (sx_cons (sx_for PassesOwn.never rfl (pix_seq (px_var 0)) (pgx_name (i := 2) nd rfl (by first | exact Or.inl rfl | exact Or.inr rfl)) (sx_one (sx_set (i := 1) nd rfl (by first | exact Or.inl rfl | exact Or.inr rfl) (px_add (px_var 1) (px_ix (px_fz (px_lst (px_cons (px_int) (px_cons (px_int) (px_cons (px_int) (px_cons (px_int) (px_cons (px_int) (px_cons (px_int) (px_nil))))))))) (px_var 2))))))
  (sx_one (sx_ret (px_var 1)))), fun ts k hp => hx ts k hp⟩
/-! ### _law_fault -/
abbrev s__law_fault : Stmt := topS 37
theorem sc__law_fault : FnScope ["many", "thing", "place", "masks", "known", "mask", "found", "rule", "later", "some"] ["many", "thing"] (defScope s__law_fault) := ⟨rfl, rfl, rfl, by decide +kernel, rfl, by decide +kernel, by decide +kernel⟩
theorem tm__law_fault {P : Program} {w : World} {K : PySem.W.Frag} {mg : Str → Option Value} {base : Heap} {f : Addr} {fd : FuncData} (bt : Bt mg) (F : Fun K "_law_fault" "_law_fault" s__law_fault f fd) (hm : mg "_law_fault" = some (.ref f)) (hb : Binds K fd ["many", "thing"] []) (C__law_mask : Cal P w K mg base 1 "_law_mask" ["some"] (spP K P__law_mask)) (C__law_set : Cal P w K mg base 2 "_law_set" ["many", "rules"] (spP K P__law_set))
    (hx : ∀ ts k, P__law_fault ts k → x__law_fault (enP k) (stP 10 ts)) (len : ∀ ts k, P__law_fault ts k → ts.length = 2) : Cal P w K mg base 3 "_law_fault" ["many", "thing"] (spP K P__law_fault) :=
  have nd := sc__law_fault.nd
  cal_P (k := 2) F sc__law_fault hm hb len fun cdv A outer s H vs E hr => ⟨_, x__law_fault, sx_cons (sx_if (pb_not (pb_tru (px_isi bt.isinst (px_var 1) bt.tuple rfl rfl (by decide +kernel)))) (sx_one (sx_ret (px_tup (px_cons (px_str) (px_nil))))) (sx_nil))
  (sx_cons (sx_for PassesOwn.never rfl (pix_range1 rfl bt.range (px_cons (px_len bt.len (px_var 1)) (px_nil))) (pgx_name (i := 2) nd rfl (by first | exact Or.inl rfl | exact Or.inr rfl)) (sx_cons (sx_if (pb_not (pb_tru (px_call C__law_set (hr.mono (by decide)) rfl (px_cons (px_var 0) (px_cons (px_ix (px_var 1) (px_var 2)) (px_nil)))))) (sx_one (sx_ret (px_tup (px_cons (px_str) (px_nil))))) (sx_nil))
  (sx_one (sx_if (pb_w (pw_more_and (pb_gt (px_var 2) (px_int)) (pw_last_and (pb_ge (by exact hr.units0) (px_ix (px_var 1) (px_sub (px_var 2) (px_int))) (px_ix (px_var 1) (px_var 2)))))) (sx_one (sx_ret (px_tup (px_cons (px_str) (px_nil))))) (sx_nil)))))
  (sx_cons (sx_setLc (j := 3) rfl nd rfl rfl (sw_true rfl rfl rfl (by decide +kernel)) (pix_seq (px_var 1)) (blkOk_by (by with_unfolding_all rfl)) (fun _ _ _ _ _ => pg_name (i := 9) nd rfl (by first | exact Or.inl rfl | exact Or.inr rfl)) (fun _ _ _ _ _ => by exact ptx_nil) (fun _ _ _ _ _ => by exact px_callk (K := K) C__law_mask (hr.mono (by decide)) rfl (px_cons (px_var 9) (px_nil))) (inh := ⟨(s, H)⟩))
  (sx_freeze 3 (sx_cons (sx_dnewK (i := 4) nd rfl (by first | exact Or.inl rfl | exact Or.inr rfl))
  (sx_cons (sx_for PassesOwn.never rfl (pix_seq (px_var 3)) (pgx_name (i := 5) nd rfl (by first | exact Or.inl rfl | exact Or.inr rfl)) (sx_one (sx_dputK (by exact u65 hr) (pv 4) (px_var 5) (px_bl))))
  (sx_cons (sx_if (pb_dictKn (by exact u65 hr) (pv 4) (px_int)) (sx_one (sx_ret (px_tup (px_cons (px_str) (px_nil))))) (sx_nil))
  (sx_cons (sx_if (pb_dictKn (by exact u65 hr) (pv 4) (px_ix (px_fz (px_lst (px_cons (px_int) (px_cons (px_int) (px_cons (px_int) (px_cons (px_int) (px_cons (px_int) (px_cons (px_int) (px_cons (px_int) (px_nil)))))))))) (px_var 0))) (sx_one (sx_ret (px_tup (px_cons (px_str) (px_nil))))) (sx_nil))
  (sx_cons (sx_for PassesOwn.never rfl (pix_range1 rfl bt.range (px_cons (px_len bt.len (px_var 1)) (px_nil))) (pgx_name (i := 2) nd rfl (by first | exact Or.inl rfl | exact Or.inr rfl)) (sx_one (sx_if (pb_gt (px_ix (px_var 3) (px_var 2)) (px_int)) (sx_cons (sx_set (i := 6) nd rfl (by first | exact Or.inl rfl | exact Or.inr rfl) (px_bl))
  (sx_cons (sx_for PassesOwn.never rfl (pix_seq (px_ix (px_var 1) (px_var 2))) (pgx_name (i := 7) nd rfl (by first | exact Or.inl rfl | exact Or.inr rfl)) (sx_one (sx_if (pb_dictK (by exact u65 hr) (pv 4) (px_sub (px_ix (px_var 3) (px_var 2)) (px_ix (px_fz (px_lst (px_cons (px_int) (px_cons (px_int) (px_cons (px_int) (px_cons (px_int) (px_cons (px_int) (px_cons (px_int) (px_nil))))))))) (px_var 7)))) (sx_one (sx_set (i := 6) nd rfl (by first | exact Or.inl rfl | exact Or.inr rfl) (px_bl))) (sx_nil))))
  (sx_one (sx_if (pb_not (pb_tru (px_var 6))) (sx_one (sx_ret (px_tup (px_cons (px_str) (px_cons (px_ix (px_var 1) (px_var 2)) (px_nil)))))) (sx_nil))))) (sx_nil))))
  (sx_cons (sx_for PassesOwn.never rfl (pix_range1 rfl bt.range (px_cons (px_len bt.len (px_var 1)) (px_nil))) (pgx_name (i := 2) nd rfl (by first | exact Or.inl rfl | exact Or.inr rfl)) (sx_one (sx_for PassesOwn.never rfl (pix_range2 rfl bt.range (px_cons (px_add (px_var 2) (px_int)) (px_cons (px_len bt.len (px_var 1)) (px_nil)))) (pgx_name (i := 8) nd rfl (by first | exact Or.inl rfl | exact Or.inr rfl)) (sx_one (sx_if (pb_dictKn (by exact u65 hr) (pv 4) (px_bor (px_ix (px_var 3) (px_var 2)) (px_ix (px_var 3) (px_var 8)))) (sx_one (sx_ret (px_tup (px_cons (px_str) (px_cons (px_ix (px_var 1) (px_var 2)) (px_cons (px_ix (px_var 1) (px_var 8)) (px_nil))))))) (sx_nil))))))
  (sx_one (sx_ret (px_non)))))))))))), fun ts k hp => hx ts k hp⟩
/-! ### _law_family -/
abbrev s__law_family : Stmt := topS 38
theorem sc__law_family : FnScope ["tape", "many", "count", "grown", "turn", "left", "masks", "k", "ahead", "mask", "more", "sets", "rule"] ["tape", "many", "count"] (defScope s__law_family) := ⟨rfl, rfl, rfl, by decide +kernel, rfl, by decide +kernel, by decide +kernel⟩
theorem tm__law_family {P : Program} {w : World} {K : PySem.W.Frag} {mg : Str → Option Value} {base : Heap} {f : Addr} {fd : FuncData} (bt : Bt mg) (F : Fun K "_law_family" "_law_family" s__law_family f fd) (hm : mg "_law_family" = some (.ref f)) (hb : Binds K fd ["tape", "many", "count"] []) (C__law_draw : Cal P w K mg base 1 "_law_draw" ["tape", "many"] (spT K P__law_draw))
    (hx : ∀ a ts tp k, P__law_family ts tp k → x__law_family (enT a k) (stT 13 a tp ts)) (len : ∀ ts tp k, P__law_family ts tp k → ts.length + 1 = 3) : Cal P w K mg base 2 "_law_family" ["tape", "many", "count"] (spT K P__law_family) :=
  have nd := sc__law_family.nd
  cal_T (k := 1) F sc__law_family hm hb len fun cdv A outer s H vs E hr => ⟨_, x__law_family, sx_cons (sx_dnewK (i := 3) nd rfl (by first | exact Or.inl rfl | exact Or.inr rfl))
  (sx_cons (sx_dputK (by exact u65 hr) (pv 3) (px_int) (px_bl))
  (sx_cons (sx_for PassesOwn.never rfl (pix_range1 rfl bt.range (px_cons (px_var 2) (px_nil))) (pgx_name (i := 4) nd rfl (by first | exact Or.inl rfl | exact Or.inr rfl)) (sx_cons (sx_setW (i := 5) nd rfl (by first | exact Or.inl rfl | exact Or.inr rfl) (pn_listRg rfl rfl bt.list (pr_1 rfl bt.range (px_var 1))))
  (sx_cons (sx_setW (i := 6) nd rfl (by first | exact Or.inl rfl | exact Or.inr rfl) (px_lst (px_cons (px_int) (px_nil))))
  (sx_cons (sx_for PassesOwn.never rfl (pix_range1 rfl bt.range (px_cons (px_var 1) (px_nil))) (pgx_name (i := 7) nd rfl (by first | exact Or.inl rfl | exact Or.inr rfl)) (sx_one (sx_expr (px_app (pv 6) (px_add (px_ixO (pv 6) (px_var 7)) (px_ix (px_fz (px_lst (px_cons (px_int) (px_cons (px_int) (px_cons (px_int) (px_cons (px_int) (px_cons (px_int) (px_cons (px_int) (px_nil))))))))) (px_popAt (pv 5) (px_callT C__law_draw (hr.mono (by decide)) rfl (px_cons (px_var 0) (px_cons (px_lenO bt.len (pv 5)) (px_nil)))))))))))
  (sx_cons (sx_set (i := 8) nd rfl (by first | exact Or.inl rfl | exact Or.inr rfl) (px_fz (pn_sortedD bt.sorted rfl (pv 3))))
  (sx_freeze 6 (sx_one (sx_for PassesOwn.never rfl (pix_seq (px_var 8)) (pgx_name (i := 9) nd rfl (by first | exact Or.inl rfl | exact Or.inr rfl)) (sx_one (sx_for PassesOwn.never rfl (pix_seq (px_var 6)) (pgx_name (i := 10) nd rfl (by first | exact Or.inl rfl | exact Or.inr rfl)) (sx_one (sx_dputK (by exact u65 hr) (pv 3) (px_bor (px_var 9) (px_var 10)) (px_bl)))))))))))))
  (sx_cons (sx_setLc (j := 11) rfl nd rfl rfl (sw_true rfl rfl rfl (by decide +kernel)) (pix_seq (px_fz (pn_sortedD bt.sorted rfl (pv 3)))) (blkOk_by (by with_unfolding_all rfl)) (fun _ _ _ _ _ => pg_name (i := 9) nd rfl (by first | exact Or.inl rfl | exact Or.inr rfl)) (fun _ _ _ _ _ => by exact ptx_nil) (fun _ _ _ _ _ => by exact px_tuplek (K := K) bt.tuple (px_fz (pn_lc rfl nd (pix_range1 rfl bt.range (px_cons (px_var 1) (px_nil))) (blkOk_by (by with_unfolding_all rfl)) (fun _ _ _ _ _ => pg_name (i := 12) nd rfl (by first | exact Or.inl rfl | exact Or.inr rfl)) (fun _ _ _ _ _ => by exact ptx_one (pb_eqk (K := K) (by exact hr.units) (px_mod (px_intc bt.int (px_fdiv (px_var 9) (px_ixk (K := K) (px_fz (px_lst (px_cons (px_int) (px_cons (px_int) (px_cons (px_int) (px_cons (px_int) (px_cons (px_int) (px_cons (px_int) (px_nil))))))))) (px_var 12)))) (px_int)) (px_int))) (fun _ _ _ _ _ => by exact px_var 12) (inh := ⟨(s, H)⟩)))) (inh := ⟨(s, H)⟩))
  (sx_freeze 11 (sx_one (sx_ret (px_tuple bt.tuple (px_fz (pn_sortedT bt.sorted (by exact u65 hr) (px_var 11)))))))))), fun a ts tp k hp => hx a ts tp k hp⟩
/-! ### _law_bent -/
abbrev s__law_bent : Stmt := topS 39
theorem sc__law_bent : FnScope ["tape", "many", "family", "at", "other", "out", "full", "extra", "swapped", "odd", "some", "rule"] ["tape", "many", "family"] (defScope s__law_bent) := ⟨rfl, rfl, rfl, by decide +kernel, rfl, by decide +kernel, by decide +kernel⟩
theorem tm__law_bent {P : Program} {w : World} {K : PySem.W.Frag} {mg : Str → Option Value} {base : Heap} {f : Addr} {fd : FuncData} (bt : Bt mg) (F : Fun K "_law_bent" "_law_bent" s__law_bent f fd) (hm : mg "_law_bent" = some (.ref f)) (hb : Binds K fd ["tape", "many", "family"] []) (C__law_draw : Cal P w K mg base 1 "_law_draw" ["tape", "many"] (spT K P__law_draw)) (C__law_some : Cal P w K mg base 2 "_law_some" ["tape", "pool", "least"] (spT K P__law_some))
    (hx : ∀ a ts tp k, P__law_bent ts tp k → x__law_bent (enT a k) (stT 12 a tp ts)) (len : ∀ ts tp k, P__law_bent ts tp k → ts.length + 1 = 3) : Cal P w K mg base 3 "_law_bent" ["tape", "many", "family"] (spT K P__law_bent) :=
  have nd := sc__law_bent.nd
  cal_T (k := 2) F sc__law_bent hm hb len fun cdv A outer s H vs E hr => ⟨_, x__law_bent, sx_cons (sx_set (i := 3) nd rfl (by first | exact Or.inl rfl | exact Or.inr rfl) (px_callT C__law_draw (hr.mono (by decide)) rfl (px_cons (px_var 0) (px_cons (px_len bt.len (px_var 2)) (px_nil)))))
  (sx_cons (sx_set (i := 4) nd rfl (by first | exact Or.inl rfl | exact Or.inr rfl) (px_callT C__law_draw (hr.mono (by decide)) rfl (px_cons (px_var 0) (px_cons (px_len bt.len (px_var 2)) (px_nil)))))
  (sx_cons (sx_setW (i := 5) nd rfl (by first | exact Or.inl rfl | exact Or.inr rfl) (px_lst (px_cons (px_add (px_sl (px_var 2) (px_no) (px_part (px_var 3))) (px_sl (px_var 2) (px_part (px_add (px_var 3) (px_int))) (px_no))) (px_cons (px_sl (px_var 2) (px_part (px_int)) (px_no)) (px_cons (px_sl (px_var 2) (px_no) (px_part (px_neg (px_int)))) (px_cons (px_sl (px_sl (px_var 2) (px_part (px_int)) (px_no)) (px_no) (px_part (px_neg (px_int)))) (px_nil)))))))
  (sx_cons (sx_set (i := 6) nd rfl (by first | exact Or.inl rfl | exact Or.inr rfl) (px_tupRg rfl rfl bt.tuple (pr_1 rfl bt.range (px_var 1))))
  (sx_cons (sx_expr (px_app (pv 5) (px_tuple bt.tuple (px_fz (pn_lc rfl nd (pix_seq (px_var 2)) (blkOk_by (by with_unfolding_all rfl)) (fun _ _ _ _ _ => pg_name (i := 10) nd rfl (by first | exact Or.inl rfl | exact Or.inr rfl)) (fun _ _ _ _ _ => by exact ptx_one (pb_nek (K := K) (by exact hr.units) (px_var 10) (px_var 6))) (fun _ _ _ _ _ => by exact px_var 10) (inh := ⟨(s, H)⟩))))))
  (sx_cons (sx_expr (px_app (pv 5) (px_tuple bt.tuple (px_fz (pn_lc rfl nd (pix_seq (px_var 2)) (blkOk_by (by with_unfolding_all rfl)) (fun _ _ _ _ _ => pg_name (i := 10) nd rfl (by first | exact Or.inl rfl | exact Or.inr rfl)) (fun _ _ _ _ _ => by exact ptx_one (pb_w (pw_more_and (pb_nek (K := K) (by exact hr.units) (px_var 10) (px_var 6)) (pw_last_and (pb_nek (K := K) (by exact hr.units) (px_var 10) (px_tup (px_nil))))))) (fun _ _ _ _ _ => by exact px_var 10) (inh := ⟨(s, H)⟩))))))
  (sx_cons (sx_expr (px_app (pv 5) (px_tuple bt.tuple (px_fz (pn_lc rfl nd (pix_seq (px_var 2)) (blkOk_by (by with_unfolding_all rfl)) (fun _ _ _ _ _ => pg_name (i := 10) nd rfl (by first | exact Or.inl rfl | exact Or.inr rfl)) (fun _ _ _ _ _ => by exact ptx_one (pb_w (pw_more_and (pb_nek (K := K) (by exact hr.units) (px_var 10) (px_ixk (K := K) (px_var 2) (px_var 3))) (pw_last_and (pb_nek (K := K) (by exact hr.units) (px_var 10) (px_ixk (K := K) (px_var 2) (px_var 4))))))) (fun _ _ _ _ _ => by exact px_var 10) (inh := ⟨(s, H)⟩))))))
  (sx_cons (sx_expr (px_app (pv 5) (px_tuple bt.tuple (px_fz (pn_lc rfl nd (pix_seq (px_var 2)) (blkOk_by (by with_unfolding_all rfl)) (fun _ _ _ _ _ => pg_name (i := 10) nd rfl (by first | exact Or.inl rfl | exact Or.inr rfl)) (fun _ _ _ _ _ => by exact ptx_one (pb_ink (K := K) (by exact u65 hr) (px_var 10) (px_fz (px_lst (px_cons (px_tup (px_nil)) (px_cons (px_var 6) (px_cons (px_ixk (K := K) (px_var 2) (px_var 3)) (px_cons (px_ixk (K := K) (px_var 2) (px_var 4)) (px_nil))))))))) (fun _ _ _ _ _ => by exact px_var 10) (inh := ⟨(s, H)⟩))))))
  (sx_cons (sx_expr (px_app (pv 5) (px_tuple bt.tuple (px_fz (pn_lc rfl nd (pix_seq (px_var 2)) (blkOk_by (by with_unfolding_all rfl)) (fun _ _ _ _ _ => pg_name (i := 10) nd rfl (by first | exact Or.inl rfl | exact Or.inr rfl)) (fun _ _ _ _ _ => by exact ptx_one (pb_w (pw_more_or (pb_nek (K := K) (by exact hr.units) (px_lenk (K := K) bt.len (px_var 10)) (px_int)) (pw_last_or (pb_eqk (K := K) (by exact hr.units) (px_var 10) (px_ixk (K := K) (px_var 2) (px_var 3))))))) (fun _ _ _ _ _ => by exact px_var 10) (inh := ⟨(s, H)⟩))))))
  (sx_cons (sx_set (i := 7) nd rfl (by first | exact Or.inl rfl | exact Or.inr rfl) (px_callT C__law_some (hr.mono (by decide)) rfl (px_cons (px_var 0) (px_cons (px_fz (pn_listRg rfl rfl bt.list (pr_1 rfl bt.range (px_var 1)))) (px_cons (px_int) (px_nil))))))
  (sx_cons (sx_if (pb_nin (by exact u65 hr) (px_var 7) (px_var 2)) (sx_one (sx_expr (px_app (pv 5) (px_tuple bt.tuple (px_fz (pn_sortedT bt.sorted (by exact u65 hr) (px_add (px_fz (pn_list bt.list (px_var 2))) (px_fz (px_lst (px_cons (px_var 7) (px_nil))))))))))) (sx_nil))
  (sx_cons (sx_setW (i := 8) nd rfl (by first | exact Or.inl rfl | exact Or.inr rfl) (pn_list bt.list (px_var 2)))
  (sx_cons (sx_sto (pv 8) (px_var 3) (px_ix (px_var 2) (px_var 4)) (ps_asg (px_ix (px_var 2) (px_var 4) : PX _ _ _ _).pe (pg_sub (pv 8) (px_var 3 : PX _ _ _ _).pe set_list)))
  (sx_cons (sx_sto (pv 8) (px_var 4) (px_ix (px_var 2) (px_var 3)) (ps_asg (px_ix (px_var 2) (px_var 3) : PX _ _ _ _).pe (pg_sub (pv 8) (px_var 4 : PX _ _ _ _).pe set_list)))
  (sx_freeze 8 (sx_cons (sx_expr (px_app (pv 5) (px_tuple bt.tuple (px_var 8))))
  (sx_cons (sx_expr (px_app (pv 5) (px_add (px_sl (px_var 2) (px_no) (px_part (px_add (px_var 3) (px_int)))) (px_sl (px_var 2) (px_part (px_var 3)) (px_no)))))
  (sx_cons (sx_expr (px_app (pv 5) (px_rev (px_var 2))))
  (sx_cons (sx_for PassesOwn.never rfl (pix_seq (px_fz (px_lst (px_cons (px_fz (pn_list bt.list (px_ix (px_var 2) (px_var 3)))) (px_cons (px_rev (px_ix (px_var 2) (px_var 3))) (px_cons (px_add (px_ix (px_var 2) (px_var 3)) (px_tup (px_cons (px_var 1) (px_nil)))) (px_cons (px_add (px_tup (px_cons (px_neg (px_int)) (px_nil))) (px_ix (px_var 2) (px_var 3))) (px_cons (px_non) (px_cons (px_var 3) (px_cons (px_add (px_ix (px_var 2) (px_var 3)) (px_sl (px_ix (px_var 2) (px_var 3)) (px_part (px_neg (px_int))) (px_no))) (px_nil))))))))))) (pgx_name (i := 9) nd rfl (by first | exact Or.inl rfl | exact Or.inr rfl)) (sx_one (sx_expr (px_app (pv 5) (px_add (px_add (px_sl (px_var 2) (px_no) (px_part (px_var 3))) (px_tup (px_cons (px_var 9) (px_nil)))) (px_sl (px_var 2) (px_part (px_add (px_var 3) (px_int))) (px_no)))))))
  (sx_cons (sx_expr (px_app (pv 5) (px_tuple bt.tuple (px_fz (pn_lc rfl nd (pix_seq (px_var 2)) (blkOk_by (by with_unfolding_all rfl)) (fun _ _ _ _ _ => pg_name (i := 10) nd rfl (by first | exact Or.inl rfl | exact Or.inr rfl)) (fun _ _ _ _ _ => by exact ptx_nil) (fun _ _ _ _ _ => by exact px_tuplek (K := K) bt.tuple (px_fz (pn_lc rfl nd (pix_seqk (K := K) (px_var 10)) (blkOk_by (by with_unfolding_all rfl)) (fun _ _ _ _ _ => pg_name (i := 11) nd rfl (by first | exact Or.inl rfl | exact Or.inr rfl)) (fun _ _ _ _ _ => by exact ptx_nil) (fun _ _ _ _ _ => by exact px_ifExp (pb_eqk (K := K) (by exact hr.units) (px_var 11) (px_int)) (px_bl) (px_var 11)) (inh := ⟨(s, H)⟩)))) (inh := ⟨(s, H)⟩))))))
  (sx_cons (sx_expr (px_app (pv 5) (px_tuple bt.tuple (px_fz (pn_lc rfl nd (pix_seq (px_var 2)) (blkOk_by (by with_unfolding_all rfl)) (fun _ _ _ _ _ => pg_name (i := 10) nd rfl (by first | exact Or.inl rfl | exact Or.inr rfl)) (fun _ _ _ _ _ => by exact ptx_nil) (fun _ _ _ _ _ => by exact px_tuplek (K := K) bt.tuple (px_fz (pn_lc rfl nd (pix_seqk (K := K) (px_var 10)) (blkOk_by (by with_unfolding_all rfl)) (fun _ _ _ _ _ => pg_name (i := 11) nd rfl (by first | exact Or.inl rfl | exact Or.inr rfl)) (fun _ _ _ _ _ => by exact ptx_nil) (fun _ _ _ _ _ => by exact px_ifExp (pb_eqk (K := K) (by exact hr.units) (px_var 11) (px_int)) (px_bl) (px_var 11)) (inh := ⟨(s, H)⟩)))) (inh := ⟨(s, H)⟩))))))
  (sx_cons (sx_expr (px_app (pv 5) (px_fz (pn_list bt.list (px_var 2)))))
  (sx_cons (sx_expr (px_app (pv 5) (px_tup (px_cons (px_tup (px_nil)) (px_nil)))))
  (sx_cons (sx_expr (px_app (pv 5) (px_tup (px_cons (px_tup (px_nil)) (px_cons (px_var 6) (px_nil))))))
  (sx_cons (sx_expr (px_app (pv 5) (px_tup (px_cons (px_var 6) (px_nil)))))
  (sx_cons (sx_expr (px_app (pv 5) (px_tup (px_nil))))
  (sx_cons (sx_expr (px_app (pv 5) (px_non)))
  (sx_cons (sx_expr (px_app (pv 5) (px_str)))
  (sx_one (sx_retO (pv 5)))))))))))))))))))))))))))))), fun a ts tp k hp => hx a ts tp k hp⟩
/-! ### _law_same -/
abbrev s__law_same : Stmt := topS 40
theorem sc__law_same : FnScope ["told", "due", "place", "spot"] ["told", "due"] (defScope s__law_same) := ⟨rfl, rfl, rfl, by decide +kernel, rfl, by decide +kernel, by decide +kernel⟩
theorem tm__law_same {P : Program} {w : World} {K : PySem.W.Frag} {mg : Str → Option Value} {base : Heap} {f : Addr} {fd : FuncData} (bt : Bt mg) (F : Fun K "_law_same" "_law_same" s__law_same f fd) (hm : mg "_law_same" = some (.ref f)) (hb : Binds K fd ["told", "due"] []) (C__law_whole : Cal P w K mg base 1 "_law_whole" ["x"] (spP K P__law_whole))
    (hx : ∀ ts k, P__law_same ts k → x__law_same (enP k) (stP 4 ts)) (len : ∀ ts k, P__law_same ts k → ts.length = 2) : Cal P w K mg base 2 "_law_same" ["told", "due"] (spP K P__law_same) :=
  have nd := sc__law_same.nd
  cal_P (k := 1) F sc__law_same hm hb len fun cdv A outer s H vs E hr => ⟨_, x__law_same, sx_cons (sx_if (pb_is (px_var 1) (px_non)) (sx_one (sx_ret (px_is (px_var 0) (px_non)))) (sx_nil))
  (sx_cons (sx_if (pb_w (pw_more_or (pb_not (pb_tru (px_isi bt.isinst (px_var 0) bt.tuple rfl rfl (by decide +kernel)))) (pw_last_or (pb_ne (by exact hr.units) (px_len bt.len (px_var 0)) (px_len bt.len (px_var 1)))))) (sx_one (sx_ret (px_bl))) (sx_nil))
  (sx_cons (sx_if (pb_w (pw_more_or (pb_not (pb_tru (px_isi bt.isinst (px_ix (px_var 0) (px_int)) bt.str rfl rfl (by decide +kernel)))) (pw_last_or (pb_ne (by exact hr.units) (px_ix (px_var 0) (px_int)) (px_ix (px_var 1) (px_int)))))) (sx_one (sx_ret (px_bl))) (sx_nil))
  (sx_cons (sx_for PassesOwn.never rfl (pix_range2 rfl bt.range (px_cons (px_int) (px_cons (px_len bt.len (px_var 1)) (px_nil)))) (pgx_name (i := 2) nd rfl (by first | exact Or.inl rfl | exact Or.inr rfl)) (sx_cons (sx_if (pb_w (pw_more_or (pb_not (pb_tru (px_isi bt.isinst (px_ix (px_var 0) (px_var 2)) bt.tuple rfl rfl (by decide +kernel)))) (pw_last_or (pb_ne (by exact hr.units) (px_len bt.len (px_ix (px_var 0) (px_var 2))) (px_len bt.len (px_ix (px_var 1) (px_var 2))))))) (sx_one (sx_ret (px_bl))) (sx_nil))
  (sx_one (sx_for PassesOwn.never rfl (pix_range1 rfl bt.range (px_cons (px_len bt.len (px_ix (px_var 1) (px_var 2))) (px_nil))) (pgx_name (i := 3) nd rfl (by first | exact Or.inl rfl | exact Or.inr rfl)) (sx_one (sx_if (pb_w (pw_more_or (pb_not (pb_tru (px_call C__law_whole (hr.mono (by decide)) rfl (px_cons (px_ix (px_ix (px_var 0) (px_var 2)) (px_var 3)) (px_nil))))) (pw_last_or (pb_ne (by exact hr.units) (px_ix (px_ix (px_var 0) (px_var 2)) (px_var 3)) (px_ix (px_ix (px_var 1) (px_var 2)) (px_var 3)))))) (sx_one (sx_ret (px_bl))) (sx_nil)))))))
  (sx_one (sx_ret (px_bl)))))), fun ts k hp => hx ts k hp⟩
/-! ### _law_families -/
abbrev s__law_families : Stmt := topS 41
theorem sc__law_families : FnScope ["tape", "many", "family", "things", "first", "turn", "at", "fault", "thing"] ["tape", "many"] (defScope s__law_families) := ⟨rfl, rfl, rfl, by decide +kernel, rfl, by decide +kernel, by decide +kernel⟩
theorem tm__law_families {P : Program} {w : World} {K : PySem.W.Frag} {mg : Str → Option Value} {base : Heap} {f : Addr} {fd : FuncData} (bt : Bt mg) (F : Fun K "_law_families" "_law_families" s__law_families f fd) (hm : mg "_law_families" = some (.ref f)) (hb : Binds K fd ["tape", "many"] []) (C__law_bent : Cal P w K mg base 3 "_law_bent" ["tape", "many", "family"] (spT K P__law_bent)) (C__law_draw : Cal P w K mg base 1 "_law_draw" ["tape", "many"] (spT K P__law_draw)) (C__law_family : Cal P w K mg base 2 "_law_family" ["tape", "many", "count"] (spT K P__law_family)) (C__law_fault : Cal P w K mg base 3 "_law_fault" ["many", "thing"] (spP K P__law_fault)) (C__law_same : Cal P w K mg base 2 "_law_same" ["told", "due"] (spP K P__law_same)) (C_family_fault : Cal P w K mg base 5 "family_fault" ["many", "thing"] (spP K P_family_fault))
    (hx : ∀ a ts tp k, P__law_families ts tp k → x__law_families (enT a k) (stT 9 a tp ts)) (len : ∀ ts tp k, P__law_families ts tp k → ts.length + 1 = 2) : Cal P w K mg base 6 "_law_families" ["tape", "many"] (spT K P__law_families) :=
  have nd := sc__law_families.nd
  cal_T (k := 5) F sc__law_families hm hb len fun cdv A outer s H vs E hr => ⟨_, x__law_families, sx_cons (sx_set (i := 2) nd rfl (by first | exact Or.inl rfl | exact Or.inr rfl) (px_callT C__law_family (hr.mono (by decide)) rfl (px_cons (px_var 0) (px_cons (px_var 1) (px_cons (px_ix (px_fz (px_lst (px_cons (px_int) (px_cons (px_int) (px_cons (px_int) (px_cons (px_int) (px_nil))))))) (px_callT C__law_draw (hr.mono (by decide)) rfl (px_cons (px_var 0) (px_cons (px_int) (px_nil))))) (px_nil))))))
  (sx_cons (sx_if (pb_isn (px_call C_family_fault (hr.mono (by decide)) rfl (px_cons (px_var 1) (px_cons (px_var 2) (px_nil)))) (px_non)) (sx_one (sx_ret (px_bl))) (sx_nil))
  (sx_cons (sx_setW (i := 3) nd rfl (by first | exact Or.inl rfl | exact Or.inr rfl) (pn_callT C__law_bent (hr.mono (by decide)) rfl (px_cons (px_var 0) (px_cons (px_var 1) (px_cons (px_var 2) (px_nil))))))
  (sx_cons (sx_set (i := 4) nd rfl (by first | exact Or.inl rfl | exact Or.inr rfl) (px_callT C__law_draw (hr.mono (by decide)) rfl (px_cons (px_var 0) (px_cons (px_len bt.len (px_var 2)) (px_nil)))))
  (sx_cons (sx_for PassesOwn.never rfl (pix_range1 rfl bt.range (px_cons (px_int) (px_nil))) (pgx_name (i := 5) nd rfl (by first | exact Or.inl rfl | exact Or.inr rfl)) (sx_cons (sx_set (i := 6) nd rfl (by first | exact Or.inl rfl | exact Or.inr rfl) (px_mod (px_intc bt.int (px_add (px_var 4) (px_mul (px_var 5) (px_int)))) (px_len bt.len (px_var 2))))
  (sx_cons (sx_set (i := 7) nd rfl (by first | exact Or.inl rfl | exact Or.inr rfl) (px_call C__law_fault (hr.mono (by decide)) rfl (px_cons (px_var 1) (px_cons (px_add (px_sl (px_var 2) (px_no) (px_part (px_var 6))) (px_sl (px_var 2) (px_part (px_add (px_var 6) (px_int))) (px_no))) (px_nil)))))
  (sx_one (sx_if (pb_w (pw_more_and (pb_isn (px_var 7) (px_non)) (pw_last_and (pb_eq (by exact hr.units) (px_ix (px_var 7) (px_int)) (px_str))))) (sx_cons (sx_expr (px_app (pv 3) (px_add (px_sl (px_var 2) (px_no) (px_part (px_var 6))) (px_sl (px_var 2) (px_part (px_add (px_var 6) (px_int))) (px_no)))))
  (sx_one (sx_break))) (sx_nil))))))
  (sx_freeze 3 (sx_cons (sx_for PassesOwn.never rfl (pix_seq (px_var 3)) (pgx_name (i := 8) nd rfl (by first | exact Or.inl rfl | exact Or.inr rfl)) (sx_one (sx_if (pb_not (pb_tru (px_call C__law_same (hr.mono (by decide)) rfl (px_cons (px_call C_family_fault (hr.mono (by decide)) rfl (px_cons (px_var 1) (px_cons (px_var 8) (px_nil)))) (px_cons (px_call C__law_fault (hr.mono (by decide)) rfl (px_cons (px_var 1) (px_cons (px_var 8) (px_nil)))) (px_nil)))))) (sx_one (sx_ret (px_bl))) (sx_nil))))
  (sx_one (sx_ret (px_is (px_call C_family_fault (hr.mono (by decide)) rfl (px_cons (px_var 1) (px_cons (px_var 2) (px_nil)))) (px_non)))))))))), fun a ts tp k hp => hx a ts tp k hp⟩
end Pf

namespace Pf
open PySem PySem.Spec PyProof.Rows L2 TL
/-! ### law -/
abbrev s_law : Stmt := topS 42
theorem sc_law : FnScope ["script", "tape", "order", "turn", "many", "job"] ["script"] (defScope s_law) := ⟨rfl, rfl, rfl, by decide +kernel, rfl, by decide +kernel, by decide +kernel⟩
theorem tm_law {P : Program} {w : World} {K : PySem.W.Frag} {mg : Str → Option Value} {base : Heap} {f : Addr} {fd : FuncData} (bt : Bt mg) (F : Fun K "law" "law" s_law f fd) (hm : mg "law" = some (.ref f)) (hb : Binds K fd ["script"] []) (C__law_bars : Cal P w K mg base 5 "_law_bars" ["tape", "many"] (spT K P__law_bars)) (C__law_draw : Cal P w K mg base 1 "_law_draw" ["tape", "many"] (spT K P__law_draw)) (C__law_families : Cal P w K mg base 6 "_law_families" ["tape", "many"] (spT K P__law_families)) (C__law_fences : Cal P w K mg base 8 "_law_fences" ["tape", "many"] (spT K P__law_fences)) (C__law_tape : Cal P w K mg base 1 "_law_tape" ["script"] (spP K P__law_tape))
    (hx : ∀ ts k, P_law ts k → x_law (enP k) (stP 6 ts)) (len : ∀ ts k, P_law ts k → ts.length = 1) : Cal P w K mg base 9 "law" ["script"] (spP K P_law) :=
  have nd := sc_law.nd
  cal_P (k := 8) F sc_law hm hb len fun cdv A outer s H vs E hr => ⟨_, x_law, sx_cons (sx_setW (i := 1) nd rfl (by first | exact Or.inl rfl | exact Or.inr rfl) (pn_call C__law_tape (hr.mono (by decide)) rfl (px_cons (px_var 0) (px_nil))))
  (sx_share 1 (sx_cons (sx_set (i := 2) nd rfl (by first | exact Or.inl rfl | exact Or.inr rfl) (px_callT C__law_draw (hr.mono (by decide)) rfl (px_cons (px_var 1) (px_cons (px_int) (px_nil)))))
  (sx_cons (sx_for PassesOwn.never rfl (pix_range1 rfl bt.range (px_cons (px_int) (px_nil))) (pgx_name (i := 3) nd rfl (by first | exact Or.inl rfl | exact Or.inr rfl)) (sx_cons (sx_set (i := 4) nd rfl (by first | exact Or.inl rfl | exact Or.inr rfl) (px_ix (px_fz (px_lst (px_cons (px_int) (px_cons (px_int) (px_cons (px_int) (px_cons (px_int) (px_cons (px_int) (px_cons (px_int) (px_cons (px_int) (px_cons (px_int) (px_cons (px_int) (px_nil)))))))))))) (px_callT C__law_draw (hr.mono (by decide)) rfl (px_cons (px_var 1) (px_cons (px_int) (px_nil))))))
  (sx_cons (sx_set (i := 5) nd rfl (by first | exact Or.inl rfl | exact Or.inr rfl) (px_ix (px_ix (px_fz (px_lst (px_cons (px_fz (px_lst (px_cons (px_int) (px_cons (px_int) (px_cons (px_int) (px_nil)))))) (px_cons (px_fz (px_lst (px_cons (px_int) (px_cons (px_int) (px_cons (px_int) (px_nil)))))) (px_cons (px_fz (px_lst (px_cons (px_int) (px_cons (px_int) (px_cons (px_int) (px_nil)))))) (px_cons (px_fz (px_lst (px_cons (px_int) (px_cons (px_int) (px_cons (px_int) (px_nil)))))) (px_cons (px_fz (px_lst (px_cons (px_int) (px_cons (px_int) (px_cons (px_int) (px_nil)))))) (px_cons (px_fz (px_lst (px_cons (px_int) (px_cons (px_int) (px_cons (px_int) (px_nil)))))) (px_nil))))))))) (px_var 2)) (px_var 3)))
  (sx_cons (sx_if (pb_w (pw_more_and (pb_eq (by exact hr.units) (px_var 5) (px_int)) (pw_last_and (pb_not (pb_tru (px_callT C__law_bars (hr.mono (by decide)) rfl (px_cons (px_var 1) (px_cons (px_var 4) (px_nil))))))))) (sx_one (sx_ret (px_bl))) (sx_nil))
  (sx_cons (sx_if (pb_w (pw_more_and (pb_eq (by exact hr.units) (px_var 5) (px_int)) (pw_last_and (pb_not (pb_tru (px_callT C__law_fences (hr.mono (by decide)) rfl (px_cons (px_var 1) (px_cons (px_var 4) (px_nil))))))))) (sx_one (sx_ret (px_bl))) (sx_nil))
  (sx_one (sx_if (pb_w (pw_more_and (pb_eq (by exact hr.units) (px_var 5) (px_int)) (pw_last_and (pb_not (pb_tru (px_callT C__law_families (hr.mono (by decide)) rfl (px_cons (px_var 1) (px_cons (px_var 4) (px_nil))))))))) (sx_one (sx_ret (px_bl))) (sx_nil))))))))
  (sx_one (sx_ret (px_bl)))))), fun ts k hp => hx ts k hp⟩
end Pf

namespace Pf
open PySem PySem.Spec PyProof.Rows L2 TL
abbrev s_need : Stmt := topS 12
theorem sc_need : FnScope ["upper", "lower", "rule"] ["upper", "lower"] (defScope s_need) := ⟨rfl, rfl, rfl, by decide +kernel, rfl, by decide +kernel, by decide +kernel⟩
def x_need (ke : Str → Prop) : XS := xSeq (xIfS (xNot (xTru (xVar 1))) (xRaise ke "empty") xNext) (xFor (xiL (xVar 1)) (xgN 2) (xIfS (xB (xOp (inR false) (xVar 2) (xVar 0))) (xRaise ke "common") xNext))
theorem r_need : ∀ ts k ke, P_need_sides ts k ke → x_need ke (enP k) (stP 3 ts) := by
  rintro ts k ke ⟨up, lo, rfl, h1, h2, h3⟩
  simp [x_need]
  by_cases c : lo = []
  · subst c
    simp [xRaise]
    exact h1 rfl
  · simp [c]
    refine for_over (ts := lo.map T.int) (fun n s => (∃ d, s = ⟨[.fr (tI up), .fr (tI lo), d], none⟩) ∧ ∀ (j : Nat) (r : Int), j < n → lo[j]? = some r → r ∉ up) ?_ ⟨⟨_, rfl⟩, fun j r h => absurd h (by omega)⟩ ?_ ?_
    · intro k h
      simp
      exact h
    · rintro n x s hx ⟨⟨d, rfl⟩, hp⟩
      obtain ⟨r, h4, rfl⟩ := ints_get hx
      simp
      by_cases cu : r ∈ up
      · simp [cu, xRaise]
        exact h2 c ⟨r, List.mem_of_getElem? h4, cu⟩
      · simp [cu]
        intro j r' hj h5
        by_cases q : j < n
        · exact hp j r' q h5
        · have : j = n := by omega
          subst this
          rw [h4] at h5
          cases h5
          exact cu
    · rintro s ⟨⟨d, rfl⟩, hp⟩
      rw [List.length_map] at hp
      simp
      refine h3 c fun r hr => ?_
      obtain ⟨j, hj⟩ := List.getElem?_of_mem hr
      exact hp j r (List.getElem?_eq_some_iff.mp hj).1 hj
section
variable {P : Program} {w : World} {K : PySem.W.Frag} {mg : Str → Option Value} {base : Heap} {C fI f : Addr} {fd : FuncData}
theorem fin_E {N : List Str} {B H : Hp} {k : Rt → Prop} {Q : VK} {t : TS} {x : XS} {vs : List V} {ts : List T} (e : Ex B H) (d : Dns K B vs ts) (sn : SndS ⟨K, B, H⟩ t x) (hx : x (enP k) (stP N.length ts)) (q : ∀ r B' v H', k r → Stp B H B' H' → RtOk K B' H H' v r → Q v H') : t { nx := fun _ H' => Q .non H', rt := Q } (L2.start N vs) H := by
  refine sn _ _ hx B _ H (rl_start e d) _ ⟨fun B' st' σ' H' hn e1 r1 => ?_, fun B' v r st' σ' H' hn e1 r1 hv => ?_, fun B' st' σ' H' hn => hn.elim, fun B' st' σ' H' hn => hn.elim⟩
  · exact q (.fr .non) B' .non H' hn ⟨e1, r1.fk, r1.bk, r1.nw⟩ .non
  · refine q r B' v H' hn ⟨e1, r1.fk, r1.bk, r1.nw⟩ ?_
    cases r with
    | fr t => exact hv
    | nw c =>
      obtain ⟨p, o, rfl, a, hp, ho⟩ := hv
      exact ⟨p, o, rfl, a.b, a.f, hp, ho⟩
theorem ok_need (T : Bad P w K mg base "BadStep" "word" C fI) (F : Fun K "need_sides" "need_sides" s_need f fd) : FnOk P w K mg base (L2.CX P w) 3 f fd ["upper", "lower"] (spE K "word" C P_need_sides) := by
  obtain ⟨fdI, FI, bI⟩ := T.fn
  refine F.okX sc_need (fun vs H Q E h => ?_) (fun cdv A outer s H vs Q E hr h => ?_)
  · obtain ⟨B, ts, k, ke, _, d, ⟨up, lo, rfl, _⟩, _⟩ := h
    rw [d.length]
    rfl
  · obtain ⟨B, ts, k, ke, e, d, hP, hq, hE⟩ := h
    have nd := sc_need.nd
    have pz : PZ (cxOf (L2.CX P w) P w K mg base ["upper", "lower", "rule"] "need_sides" (defScope s_need) f cdv A outer s H E) ⟨K, B, H⟩ (defBody s_need) _ (x_need ke) :=
      z_cons (z_if rfl (pb_not (pb_tru (px_var 1))) (z_one (z_raise T hE rfl (takes_of rfl rfl rfl rfl) hr rfl)) z_nil)
        (z_one (z_for rfl (passes_of rfl) rfl (pix_seq (px_var 1)) (pgx_name (i := 2) nd rfl (Or.inl rfl)) (z_one (z_if rfl (pb_in (by exact u65 hr) (px_var 2) (px_var 0)) (z_one (z_raise T hE rfl (takes_of rfl rfl rfl rfl) hr rfl)) z_nil))))
    exact ⟨_, pz.ps, fin_E e d pz.sn (r_need ts k ke hP) hq⟩
end
end Pf

namespace TL
open PySem PySem.Spec PyProof.Rows L2
def xCallX (P : XFE) (ke : Str → Prop) (xs : XA) : XS := fun D st => xs st fun ts s1 => P ts (fun r => match r with
  | .fr _ => D.nx s1
  | .nw _ => False) ke
section
variable {X : Cx} {Z : Zone} {P : XFE} {ke : Str → Prop} {e : Expr} {es : List Expr} {tA : TA} {xs : XA} {pos p pos2 : Pos} {x f : Str} {C g : Addr} {fd : FuncData} {ps : List Str} {k : Nat} {E : XK}
theorem err_at {Z : Zone} {B : Hp} {st : S} {σ : L2.St} {H : Hp} {f : Str} {C : Addr} {E : XK} {ke : Str → Prop} (h : ErrOk Z f C E ke) (r : Rl Z B st σ H) : ErrOk ⟨Z.K, B, H⟩ f C E ke := fun z B' H' d hz s hd => h z B' H' d hz (Stp.trans ⟨r.b0, r.fk, r.bk, r.nw⟩ s) hd
theorem z_callX (hZ : Z.K = X.K) (F : FnOk X.prog X.w X.K X.mg X.base (L2.CX X.prog X.w) k g fd ps (spE X.K f C P)) (hE : ErrOk Z f C E ke) (tk : Takes X (fun cls d _ H => E cls d H)) (hr : Room k X.A) (hg : Gl X x) (hm : X.mg x = some (.ref g)) (hk : PySem.W.keepIn X.K (.ref g) = true) (hb : Binds X.K fd ps []) (ha : PAX X (e :: es) tA xs)
    (hdb : (x == ("__debug__" : Str)) = false := by decide) (he : starEach (e :: es) X.env = (false, eval e X.env) :: starEach es X.env := by rfl) (hpl : (backTo pos (starEach es X.env)).any (·.1) = false := by rfl) (hs : swapsWith (.Call (.Name x p) (e :: es) [] pos) none pos2.line X.env = pure false := by rfl) :
    PZ1 X Z (.Expr (.Call (.Name x p) (e :: es) [] pos) pos2) (tDrop (tCallS (spE X.K f C P) (WE (fun cls d _ H => E cls d H)) tA)) (xCallX P ke xs) :=
  ⟨ps_expr (pe_callS F hr hg hm hk hb (fun σ => passAt tk σ) ha.pa hdb he hpl) hs, fun D st h B σ H r D' d => ha.sn Z hZ st _ h B σ H r _ fun B1 vs ts s1 H1 hP r1 e1 d1 => by
    show spE X.K f C P vs H1 _ _
    refine ⟨B1, ts, _, ke, r1.bk, by rw [← hZ]; exact d1, hP, fun rt B2 v H2 hk s hv => ?_, by have := err_at hE r1; rw [hZ] at this; exact this⟩
    cases rt with
    | fr t => exact d.nx B2 s1 σ H2 hk (e1.trans s.bb) (r1.stp s)
    | nw c => exact hk.elim⟩
end
end TL
namespace Pf
open PySem PySem.Spec PyProof.Rows L2 TL
abbrev s_fence : Stmt := topS 14
theorem sc_fence : FnScope ["many", "rows", "upper", "lower", "thing"] ["many", "rows", "upper", "lower", "thing"] (defScope s_fence) := ⟨rfl, rfl, rfl, by decide +kernel, rfl, by decide +kernel, by decide +kernel⟩
def x_fence (ke : Str → Prop) : XS := xSeq (xCallX P_need_sides ke (xCons (xVar 2) (xCons (xVar 3) xNil)))
  (xSeq (xIfS (xOr (xNot (xTru (xIsi "tuple" (xVar 4)))) (xB (xOp (eqR true) (xCB lenR (xCons (xVar 4) xNil)) (xC (.int 2))))) (xRet (xC (.bl false))) (xNext))
  (xSeq (xIfS (xNot (xTru (xCall P_is_fence_set (xCons (xVar 0) (xCons (xVar 2) (xCons (xVar 3) (xCons (xOp ixR (xVar 4) (xC (.int 0))) (xNil)))))))) (xRet (xC (.bl false))) (xNext))
  (xRet (xCall P_are_row_papers (xCons (xVar 1) (xCons (xOp ixR (xVar 4) (xC (.int 0))) (xCons (xOp addR (xOp ixR (xVar 4) (xC (.int 0))) (xVar 2)) (xCons (xOp ixR (xVar 4) (xC (.int 1))) (xNil)))))))))
theorem inc_len0 : ∀ {ns : List Int} {a m : Int}, Inc ns → a ≤ m → (∀ r ∈ ns, a ≤ r ∧ r < m) → (ns.length : Int) ≤ m - a
  | [], a, m, _, h, _ => by
    simp
    omega
  | r :: ns, a, m, h1, h, h2 => by
    have h3 := h2 r List.mem_cons_self
    have h4 := List.pairwise_cons.mp h1
    have := inc_len0 (ns := ns) (a := r + 1) (m := m) h4.2 (by omega) fun q hq => by
      have := h4.1 q hq
      have := (h2 q (List.mem_cons_of_mem _ hq)).2
      omega
    rw [List.length_cons]
    push_cast
    omega
theorem r_fence : ∀ ts k ke, P_is_row_fence0 ts k ke → x_fence ke (enP k) (stP 5 ts) := by
  rintro ts k ke ⟨many, rows, up, lo, t, rfl, ok, hw, lu, hm, h1, h2, h3⟩
  simp only [x_fence, e_seq]
  refine ⟨_, rfl, _, rfl, up, lo, rfl, h1, h2, fun c1 c2 => ?_⟩
  have hk := h3 c1 c2
  simp [isi_tup ok]
  cases t with
  | tup us =>
    simp [isTup]
    match us, ok, hk with
    | [], ok, hk =>
      simp
      exact hk
    | [a], ok, hk =>
      simp
      exact hk
    | a :: b :: c :: r, ok, hk =>
      have h2 : ¬ ((r.length : Int) + 1 + 1 + 1 = 2) := by omega
      simp [h2]
      exact hk
    | [a, b], ok, hk =>
      simp at ok
      have i0 : atI [a, b] 0 = some a := rfl
      have i1 : atI [a, b] 1 = some b := rfl
      simp [i0, i1]
      refine ⟨many, up, lo, a, rfl, ok.1, ?_⟩
      cases ha : asc ((many : Int) - 1) a with
      | false =>
        simp
        exact kb hk (by simp [paperB, ha])
      | true =>
        obtain ⟨e1, e2, e3⟩ := asc_tI ha
        generalize hn : toI a = ns at e1 e2 e3
        subst e1
        cases hf : ((up.all fun r => decide (r ∉ ns)) && lo.all fun r => decide (r ∈ ns)) with
        | false =>
          simp
          exact kb hk (by simp only [paperB, toI_tI, ha, hf, Bool.and_false, Bool.false_and])
        | true =>
          have hne : ns.isEmpty = false := by
            rw [Bool.and_eq_true, List.all_eq_true, List.all_eq_true] at hf
            cases ns with
            | nil =>
              cases lo with
              | nil => exact absurd rfl c1
              | cons r lo =>
                have := hf.2 r List.mem_cons_self
                simp at this
            | cons r ns => rfl
          have hl : ns.length ≤ many := by
            have := inc_len0 e3 (m := (many : Int)) (a := 0) (by omega) (fun r hr => by
              have := e2 r hr
              omega)
            omega
          simp [i0, i1]
          refine ⟨by rw [sizeLine_eq]; omega, ?_⟩
          rw [← List.map_append]
          refine ⟨many, rows, ns, ns ++ up, b, rfl, ok.2, hw, fun r hr => ?_, ?_⟩
          · have := e2 r hr
            omega
          · simp
            exact kb hk (by simp only [paperB, toI_tI, ha, hf, hne]; simp)
  | _ =>
    simp [isTup]
    exact hk
end Pf

namespace Pf
open PySem PySem.Spec PyProof.Rows L2 TL
section
variable {P : Program} {w : World} {K : PySem.W.Frag} {mg : Str → Option Value} {base : Heap} {C fI f g : Addr} {fd fdn : FuncData}
theorem ok_fence (bt : Bt mg) (T : Bad P w K mg base "BadStep" "word" C fI) (FN : Fun K "need_sides" "need_sides" s_need g fdn) (hmN : mg "need_sides" = some (.ref g)) (bN : L2.Binds K fdn ["upper", "lower"] []) (F : Fun K "is_row_fence" "is_row_fence" s_fence f fd)
    (C_is_fence_set : Cal P w K mg base 4 "is_fence_set" ["many", "upper", "lower", "thing"] (spP K P_is_fence_set)) (C_are_row_papers : Cal P w K mg base 3 "are_row_papers" ["rows", "rules", "inside", "thing"] (spP K P_are_row_papers)) :
    FnOk P w K mg base (L2.CX P w) 5 f fd ["many", "rows", "upper", "lower", "thing"] (spE K "word" C P_is_row_fence0) := by
  have GN := ok_need T FN
  refine F.okX sc_fence (fun vs H Q E h => ?_) (fun cdv A outer s H vs Q E hr h => ?_)
  · obtain ⟨B, ts, k, ke, _, d, ⟨many, rows, up, lo, t, rfl, _⟩, _⟩ := h
    rw [d.length]
    rfl
  · obtain ⟨B, ts, k, ke, e, d, hP, hq, hE⟩ := h
    have nd := sc_fence.nd
    have pz : PZ (cxOf (L2.CX P w) P w K mg base ["many", "rows", "upper", "lower", "thing"] "is_row_fence" (defScope s_fence) f cdv A outer s H E) ⟨K, B, H⟩ (defBody s_fence) _ (x_fence ke) :=
      z_cons (z_callX rfl GN hE (takes_of rfl rfl rfl rfl) (hr.mono (by decide)) rfl hmN FN.kp bN (by exact (px_cons (px_var 2) (px_cons (px_var 3) px_nil))))
        (z_of rfl (by exact (sx_cons (sx_if (pb_w (pw_more_or (pb_not (pb_tru (px_isi bt.isinst (px_var 4) bt.tuple rfl rfl (by decide +kernel)))) (pw_last_or (pb_ne (by exact hr.units) (px_len bt.len (px_var 4)) (px_int))))) (sx_one (sx_ret (px_bl))) (sx_nil))
          (sx_cons (sx_if (pb_not (pb_tru (px_call C_is_fence_set (hr.mono (by decide)) rfl (px_cons (px_var 0) (px_cons (px_var 2) (px_cons (px_var 3) (px_cons (px_ix (px_var 4) (px_int)) (px_nil)))))))) (sx_one (sx_ret (px_bl))) (sx_nil))
          (sx_one (sx_ret (px_call C_are_row_papers (hr.mono (by decide)) rfl (px_cons (px_var 1) (px_cons (px_ix (px_var 4) (px_int)) (px_cons (px_add (px_ix (px_var 4) (px_int)) (px_var 2)) (px_cons (px_ix (px_var 4) (px_int)) (px_nil)))))))))))) 
    exact ⟨_, pz.ps, fin_E e d pz.sn (r_fence ts k ke hP) hq⟩
/-- where nothing is raised -/
theorem cal_fence (G : FnOk P w K mg base (L2.CX P w) 5 f fd ["many", "rows", "upper", "lower", "thing"] (spE K "word" C P_is_row_fence0)) (hm : mg "is_row_fence" = some (.ref f)) (hk : PySem.W.keepIn K (.ref f) = true) (hb : L2.Binds K fd ["many", "rows", "upper", "lower", "thing"] []) :
    Cal P w K mg base 5 "is_row_fence" ["many", "rows", "upper", "lower", "thing"] (spP K P_is_row_fence) := by
  refine ⟨f, fd, FnOk.calm G (fun vs H Q E h => ?_), hm, hk, hb⟩
  obtain ⟨B, ts, k, e, d, ⟨many, rows, up, lo, t, rfl, ok, hw, lu, m6, h1, h2, h3⟩, q⟩ := h
  exact ⟨B, _, k, fun _ => False, e, d, ⟨many, rows, up, lo, t, rfl, ok, hw, lu, m6, fun z => absurd z h1, fun _ ⟨r, x, y⟩ => absurd y (h2 r x), fun _ _ => h3⟩, q, fun z B' H' d hz => hz.elim⟩
abbrev s_step : Stmt := topS 33
theorem sc_step : FnScope ["many", "rows", "upper", "lower", "thing", "told", "e"] ["many", "rows", "upper", "lower", "thing"] (defScope s_step) := ⟨rfl, rfl, rfl, by decide +kernel, rfl, by decide +kernel, by decide +kernel⟩
def t_suite (C : Addr) : Addr → Value → Option Addr → TS := fun a cls d => tRet (tTup (tCons (tC (.str "raised")) (tCons (tXf a cls d C "word" (tVar 6)) tNil)))
theorem cal_step (T : Bad P w K mg base "BadStep" "word" C fI) (G : FnOk P w K mg base (L2.CX P w) 5 f fd ["many", "rows", "upper", "lower", "thing"] (spE K "word" C P_is_row_fence0)) (hmF : mg "is_row_fence" = some (.ref f)) (kF : PySem.W.keepIn K (.ref f) = true) (bF : L2.Binds K fd ["many", "rows", "upper", "lower", "thing"] [])
    (FS : Fun K "_law_step" "_law_step" s_step g fdn) (hmS : mg "_law_step" = some (.ref g)) (bS : L2.Binds K fdn ["many", "rows", "upper", "lower", "thing"] []) :
    Cal P w K mg base 6 "_law_step" ["many", "rows", "upper", "lower", "thing"] (spP K P__law_step) := by
  refine ⟨g, fdn, FS.ok sc_step (fun vs H Q E h => ?_) (fun cdv A outer s H vs Q E hr h => ?_), hmS, FS.kp, bS⟩
  · obtain ⟨B, ts, k, _, d, ⟨many, rows, up, lo, t, rfl, _⟩, _⟩ := h
    rw [d.length]
    rfl
  · obtain ⟨B, ts, k, e, d, hP, q⟩ := h
    obtain ⟨many, rows, up, lo, t, rfl, ok, hw, lu, m6, h1, h2, h3⟩ := id hP
    have nd := sc_step.nd
    refine ⟨_, pss_cons (ps_try_as (i := 6) (tb := fun W => tAsg (tCallS (spE K "word" C P_is_row_fence0) (WE W) (tCons (tVar 0) (tCons (tVar 1) (tCons (tVar 2) (tCons (tVar 3) (tCons (tVar 4) tNil)))))) (gName 5)) (ts := t_suite C) (Wout := fun _ _ _ _ => False) rfl rfl nd rfl rfl ⟨rfl, by decide, Or.inl T.gC⟩ takes0
        (fun W pn xe tk _ => pss_one (ps_set (i := 5) nd rfl (Or.inl rfl) (by exact (pe_callS G (hr.mono (by decide)) rfl hmF kF bF (fun σ => passAt tk σ) (by exact (pa_cons (pv 0) (pa_cons (pv 1) (pa_cons (pv 2) (pa_cons (pv 3) (pa_cons (pv 4) pa_nil))))))))))
        (fun a oe cls d pn hz hf => pss_one (ps_ret (pe_tup (by exact (pa_cons pe_str (pa_cons (pe_xf T.xf T.noF hz hf (pv 6)) pa_nil)))))))
      (pss_one (ps_ret (pe_tup (by exact (pa_cons pe_str (pa_cons (pv 5) pa_nil)))))), ?_⟩
    cases d with
    | @cons v0 _ _ _ d0 d =>
    cases d with
    | @cons v1 _ _ _ d1 d =>
    cases d with
    | @cons v2 _ _ _ d2 d =>
    cases d with
    | @cons v3 _ _ _ d3 d =>
    cases d with
    | @cons v4 _ _ _ d4 d =>
    cases d
    have dd : Dns K B [v0, v1, v2, v3, v4] [.int many, rowsT rows, tI up, tI lo, t] := .cons d0 (.cons d1 (.cons d2 (.cons d3 (.cons d4 .nil))))
    refine ⟨v0, rfl, v1, rfl, v2, rfl, v3, rfl, v4, rfl, B, _, _, _, e, dd, hP, fun r B' v H' hr' s hv => ?_, fun z B' H' d' hz s hd => ?_⟩
    · cases r with
      | nw c => exact hr'.elim
      | fr t' =>
        refine ⟨v, rfl, sz1000' (n := 2) (by decide), fun p hp => ?_⟩
        have s2 := Stp.new (o := .tup [.str "told", v]) s.bh hp
        exact q _ _ _ _ hr' (s.trans s2) (.tup upd_same (Dns.mono s2.bb (.cons (.str _) (.one hv))))
    · refine ⟨true, T.te, fun _ a ha => ?_, fun z => Bool.noConfusion z⟩
      refine ⟨.ref a, rfl, rfl, rfl, d', [("word", .str z)], .str z, rfl, upd_same, rfl, sz1000' (n := 2) (by decide), fun p hp => ?_⟩
      have s1 := Stp.apart (o := .xd [("word", .str z)]) s.bh hd
      have s2 := Stp.new (o := .tup [.str "raised", .str z]) s1.bh hp
      exact q _ _ _ _ hz ((s.trans s1).trans s2) (.tup upd_same (.cons (.str _) (.one (.str z))))
end
end Pf

/-! what the end of k92 needs beside the defs -/
namespace TL
open PySem PySem.Spec PyProof.Rows L2
section
variable {P : Program} {w : World} {K : PySem.W.Frag} {mg : Str → Option Value} {base : Heap}
theorem fn_P {x : Str} {st : Stmt} {f : Addr} {fd : FuncData} {N ps : List Str} {k : Nat} {PF : XF} (F : Fun K x x st f fd) (S : FnScope N ps (defScope st)) (len : ∀ ts k, PF ts k → ts.length = ps.length)
    (hbody : ∀ (cdv : Value) (A : Around) (outer : List Env) (s : Shared) (H : Hp) (vs : List V) (E : XK), Room k (A.deeper (envOfC x (defScope st) s.heap.objs.size f cdv)) →
      ∃ t xs, PSB (cxOf CX0 P w K mg base N x (defScope st) f cdv A outer s H E).nox (defBody st) t xs ∧ ∀ ts k, PF ts k → xs (enP k) (stP N.length ts)) : FnOk P w K mg base CX0 (k + 1) f fd ps (spP K PF) := by
  refine F.ok S (fun vs H Q E h => ?_) (fun cdv A outer s H vs Q E hr h => ?_)
  · obtain ⟨B, ts, k, _, d, hP, _⟩ := h
    rw [d.length]
    exact len ts k hP
  · obtain ⟨B, ts, kk, e, d, hP, q⟩ := h
    obtain ⟨t, xs, hx, hk⟩ := hbody cdv A outer s H vs E hr
    refine ⟨t, hx.ps, hx.sn ⟨K, B, H⟩ rfl _ _ (hk ts kk hP) B _ H (rl_start e d) _ ⟨fun B' st' σ' H' hn e1 r1 => ?_, fun B' v r st' σ' H' hn e1 r1 hv => ?_, fun B' st' σ' H' hn => hn.elim, fun B' st' σ' H' hn => hn.elim⟩⟩
    · exact q (.fr .non) B' .non H' hn ⟨e1, r1.fk, r1.bk, r1.nw⟩ .non
    · refine q r B' v H' hn ⟨e1, r1.fk, r1.bk, r1.nw⟩ ?_
      cases r with
      | fr t => exact hv
      | nw c =>
        obtain ⟨p, o, rfl, a, hp, ho⟩ := hv
        exact ⟨p, o, rfl, a.b, a.f, hp, ho⟩
end
end TL
namespace Pf
open PySem PySem.Spec PyProof.Rows L2 TL
theorem fn_law {P : Program} {w : World} {K : PySem.W.Frag} {mg : Str → Option Value} {base : Heap} {f : Addr} {fd : FuncData} (bt : Bt mg) (F : Fun K "law" "law" s_law f fd) (C__law_bars : Cal P w K mg base 5 "_law_bars" ["tape", "many"] (spT K P__law_bars)) (C__law_draw : Cal P w K mg base 1 "_law_draw" ["tape", "many"] (spT K P__law_draw)) (C__law_families : Cal P w K mg base 6 "_law_families" ["tape", "many"] (spT K P__law_families)) (C__law_fences : Cal P w K mg base 8 "_law_fences" ["tape", "many"] (spT K P__law_fences)) (C__law_tape : Cal P w K mg base 1 "_law_tape" ["script"] (spP K P__law_tape))
    (hx : ∀ ts k, P_law ts k → x_law (enP k) (stP 6 ts)) (len : ∀ ts k, P_law ts k → ts.length = 1) : FnOk P w K mg base CX0 9 f fd ["script"] (spP K P_law) :=
  have nd := sc_law.nd
  fn_P (k := 8) F sc_law len fun cdv A outer s H vs E hr => ⟨_, x_law, sx_cons (sx_setW (i := 1) nd rfl (by first | exact Or.inl rfl | exact Or.inr rfl) (pn_call C__law_tape (hr.mono (by decide)) rfl (px_cons (px_var 0) (px_nil))))
  (sx_share 1 (sx_cons (sx_set (i := 2) nd rfl (by first | exact Or.inl rfl | exact Or.inr rfl) (px_callT C__law_draw (hr.mono (by decide)) rfl (px_cons (px_var 1) (px_cons (px_int) (px_nil)))))
  (sx_cons (sx_for PassesOwn.never rfl (pix_range1 rfl bt.range (px_cons (px_int) (px_nil))) (pgx_name (i := 3) nd rfl (by first | exact Or.inl rfl | exact Or.inr rfl)) (sx_cons (sx_set (i := 4) nd rfl (by first | exact Or.inl rfl | exact Or.inr rfl) (px_ix (px_fz (px_lst (px_cons (px_int) (px_cons (px_int) (px_cons (px_int) (px_cons (px_int) (px_cons (px_int) (px_cons (px_int) (px_cons (px_int) (px_cons (px_int) (px_cons (px_int) (px_nil)))))))))))) (px_callT C__law_draw (hr.mono (by decide)) rfl (px_cons (px_var 1) (px_cons (px_int) (px_nil))))))
  (sx_cons (sx_set (i := 5) nd rfl (by first | exact Or.inl rfl | exact Or.inr rfl) (px_ix (px_ix (px_fz (px_lst (px_cons (px_fz (px_lst (px_cons (px_int) (px_cons (px_int) (px_cons (px_int) (px_nil)))))) (px_cons (px_fz (px_lst (px_cons (px_int) (px_cons (px_int) (px_cons (px_int) (px_nil)))))) (px_cons (px_fz (px_lst (px_cons (px_int) (px_cons (px_int) (px_cons (px_int) (px_nil)))))) (px_cons (px_fz (px_lst (px_cons (px_int) (px_cons (px_int) (px_cons (px_int) (px_nil)))))) (px_cons (px_fz (px_lst (px_cons (px_int) (px_cons (px_int) (px_cons (px_int) (px_nil)))))) (px_cons (px_fz (px_lst (px_cons (px_int) (px_cons (px_int) (px_cons (px_int) (px_nil)))))) (px_nil))))))))) (px_var 2)) (px_var 3)))
  (sx_cons (sx_if (pb_w (pw_more_and (pb_eq (by exact hr.units) (px_var 5) (px_int)) (pw_last_and (pb_not (pb_tru (px_callT C__law_bars (hr.mono (by decide)) rfl (px_cons (px_var 1) (px_cons (px_var 4) (px_nil))))))))) (sx_one (sx_ret (px_bl))) (sx_nil))
  (sx_cons (sx_if (pb_w (pw_more_and (pb_eq (by exact hr.units) (px_var 5) (px_int)) (pw_last_and (pb_not (pb_tru (px_callT C__law_fences (hr.mono (by decide)) rfl (px_cons (px_var 1) (px_cons (px_var 4) (px_nil))))))))) (sx_one (sx_ret (px_bl))) (sx_nil))
  (sx_one (sx_if (pb_w (pw_more_and (pb_eq (by exact hr.units) (px_var 5) (px_int)) (pw_last_and (pb_not (pb_tru (px_callT C__law_families (hr.mono (by decide)) rfl (px_cons (px_var 1) (px_cons (px_var 4) (px_nil))))))))) (sx_one (sx_ret (px_bl))) (sx_nil))))))))
  (sx_one (sx_ret (px_bl)))))), fun ts k hp => hx ts k hp⟩

/-- an error of a class is what that class names -/
theorem exm_self {K : PySem.W.Frag} {S : Addr} (h1 : PySem.W.subIn K (.ref S) (.type "BaseException") = some true) (h2 : PySem.W.isClsIn K S = true) (h3 : PySem.W.typeIn K (.ref S) = some (.type "type")) (h4 : PySem.W.subIn K (.ref S) (.ref S) = some true) :
    PySem.W.exmOne K (.ref S) (.ref S) = some true := by
  have e1 : (PySem.W.subIn K (.ref S) (.type "BaseException") == some true) = true := by rw [h1] <;> rfl
  have e2 : ((PySem.W.clsIn K S).isSome && PySem.W.typeIn K (.ref S) == some (.type "type")) = true := by
    have h2' : (PySem.W.clsIn K S).isSome = true := h2
    rw [h2', h3] <;> rfl
  show (if (PySem.W.subIn K (.ref S) (.type "BaseException") == some true) = true then (if ((PySem.W.clsIn K S).isSome && PySem.W.typeIn K (.ref S) == some (.type "type")) = true then PySem.W.subIn K (.ref S) (.ref S) else none) else none) = some true
  rw [if_pos e1, if_pos e2]
  exact h4
theorem sc_init : FnScope ["self", "word"] ["self", "word"] (defScope s_init) := ⟨rfl, rfl, rfl, by decide +kernel, rfl, by decide +kernel, by decide +kernel⟩
theorem start_law {K : PySem.W.Frag} {H : Hp} {a : Addr} {ns : List Int} (hl : ns.length ≤ 63) (h : SqL K H a (ns.map V.int)) : spP K P_law [.ref a] H (fun v _ => v = .bl true) fun _ _ _ => False :=
  ⟨H, [.scr (ns.map T.int)], fun r => r = .fr (.bl true), Ex.refl H, .one (.scr h Dns.ints), ⟨ns, rfl, by omega, rfl⟩, fun r B' v H' e _ hv => by
    subst e
    cases hv
    rfl⟩
end Pf

/-! k92: the defs joined -/
namespace Pf
open PySem PySem.Spec PyProof.Rows L2 TL

theorem len_is_integer : ∀ ts k, P_is_integer ts k → ts.length = 1 := by
  first | (rintro _ _ ⟨_, rfl, _⟩; rfl) | (rintro _ _ ⟨_, _, rfl, _⟩; rfl) | (rintro _ _ ⟨_, _, _, rfl, _⟩; rfl) | (rintro _ _ ⟨_, _, _, _, rfl, _⟩; rfl) | (rintro _ _ ⟨_, _, _, _, _, rfl, _⟩; rfl) | (rintro _ _ ⟨_, _, _, _, _, _, rfl, _⟩; rfl) | (rintro _ _ ⟨_, _, _, _, _, _, _, rfl, _⟩; rfl) | (rintro _ _ ⟨_, _, _, _, _, _, _, _, rfl, _⟩; rfl) | (rintro _ _ ⟨_, _, _, _, _, _, _, _, _, rfl, _⟩; rfl)
theorem len_integer_within : ∀ ts k, P_integer_within ts k → ts.length = 3 := by
  first | (rintro _ _ ⟨_, rfl, _⟩; rfl) | (rintro _ _ ⟨_, _, rfl, _⟩; rfl) | (rintro _ _ ⟨_, _, _, rfl, _⟩; rfl) | (rintro _ _ ⟨_, _, _, _, rfl, _⟩; rfl) | (rintro _ _ ⟨_, _, _, _, _, rfl, _⟩; rfl) | (rintro _ _ ⟨_, _, _, _, _, _, rfl, _⟩; rfl) | (rintro _ _ ⟨_, _, _, _, _, _, _, rfl, _⟩; rfl) | (rintro _ _ ⟨_, _, _, _, _, _, _, _, rfl, _⟩; rfl) | (rintro _ _ ⟨_, _, _, _, _, _, _, _, _, rfl, _⟩; rfl)
theorem len_are_ascending : ∀ ts k, P_are_ascending ts k → ts.length = 2 := by
  first | (rintro _ _ ⟨_, rfl, _⟩; rfl) | (rintro _ _ ⟨_, _, rfl, _⟩; rfl) | (rintro _ _ ⟨_, _, _, rfl, _⟩; rfl) | (rintro _ _ ⟨_, _, _, _, rfl, _⟩; rfl) | (rintro _ _ ⟨_, _, _, _, _, rfl, _⟩; rfl) | (rintro _ _ ⟨_, _, _, _, _, _, rfl, _⟩; rfl) | (rintro _ _ ⟨_, _, _, _, _, _, _, rfl, _⟩; rfl) | (rintro _ _ ⟨_, _, _, _, _, _, _, _, rfl, _⟩; rfl) | (rintro _ _ ⟨_, _, _, _, _, _, _, _, _, rfl, _⟩; rfl)
theorem len_is_nowhere_worse : ∀ ts k, P_is_nowhere_worse ts k → ts.length = 3 := by
  first | (rintro _ _ ⟨_, rfl, _⟩; rfl) | (rintro _ _ ⟨_, _, rfl, _⟩; rfl) | (rintro _ _ ⟨_, _, _, rfl, _⟩; rfl) | (rintro _ _ ⟨_, _, _, _, rfl, _⟩; rfl) | (rintro _ _ ⟨_, _, _, _, _, rfl, _⟩; rfl) | (rintro _ _ ⟨_, _, _, _, _, _, rfl, _⟩; rfl) | (rintro _ _ ⟨_, _, _, _, _, _, _, rfl, _⟩; rfl) | (rintro _ _ ⟨_, _, _, _, _, _, _, _, rfl, _⟩; rfl) | (rintro _ _ ⟨_, _, _, _, _, _, _, _, _, rfl, _⟩; rfl)
theorem len_are_row_papers : ∀ ts k, P_are_row_papers ts k → ts.length = 4 := by
  first | (rintro _ _ ⟨_, rfl, _⟩; rfl) | (rintro _ _ ⟨_, _, rfl, _⟩; rfl) | (rintro _ _ ⟨_, _, _, rfl, _⟩; rfl) | (rintro _ _ ⟨_, _, _, _, rfl, _⟩; rfl) | (rintro _ _ ⟨_, _, _, _, _, rfl, _⟩; rfl) | (rintro _ _ ⟨_, _, _, _, _, _, rfl, _⟩; rfl) | (rintro _ _ ⟨_, _, _, _, _, _, _, rfl, _⟩; rfl) | (rintro _ _ ⟨_, _, _, _, _, _, _, _, rfl, _⟩; rfl) | (rintro _ _ ⟨_, _, _, _, _, _, _, _, _, rfl, _⟩; rfl)
theorem len_is_row_bar : ∀ ts k, P_is_row_bar ts k → ts.length = 3 := by
  first | (rintro _ _ ⟨_, rfl, _⟩; rfl) | (rintro _ _ ⟨_, _, rfl, _⟩; rfl) | (rintro _ _ ⟨_, _, _, rfl, _⟩; rfl) | (rintro _ _ ⟨_, _, _, _, rfl, _⟩; rfl) | (rintro _ _ ⟨_, _, _, _, _, rfl, _⟩; rfl) | (rintro _ _ ⟨_, _, _, _, _, _, rfl, _⟩; rfl) | (rintro _ _ ⟨_, _, _, _, _, _, _, rfl, _⟩; rfl) | (rintro _ _ ⟨_, _, _, _, _, _, _, _, rfl, _⟩; rfl) | (rintro _ _ ⟨_, _, _, _, _, _, _, _, _, rfl, _⟩; rfl)
theorem len_is_fence_set : ∀ ts k, P_is_fence_set ts k → ts.length = 4 := by
  first | (rintro _ _ ⟨_, rfl, _⟩; rfl) | (rintro _ _ ⟨_, _, rfl, _⟩; rfl) | (rintro _ _ ⟨_, _, _, rfl, _⟩; rfl) | (rintro _ _ ⟨_, _, _, _, rfl, _⟩; rfl) | (rintro _ _ ⟨_, _, _, _, _, rfl, _⟩; rfl) | (rintro _ _ ⟨_, _, _, _, _, _, rfl, _⟩; rfl) | (rintro _ _ ⟨_, _, _, _, _, _, _, rfl, _⟩; rfl) | (rintro _ _ ⟨_, _, _, _, _, _, _, _, rfl, _⟩; rfl) | (rintro _ _ ⟨_, _, _, _, _, _, _, _, _, rfl, _⟩; rfl)
theorem len_are_sets : ∀ ts k, P_are_sets ts k → ts.length = 2 := by
  first | (rintro _ _ ⟨_, rfl, _⟩; rfl) | (rintro _ _ ⟨_, _, rfl, _⟩; rfl) | (rintro _ _ ⟨_, _, _, rfl, _⟩; rfl) | (rintro _ _ ⟨_, _, _, _, rfl, _⟩; rfl) | (rintro _ _ ⟨_, _, _, _, _, rfl, _⟩; rfl) | (rintro _ _ ⟨_, _, _, _, _, _, rfl, _⟩; rfl) | (rintro _ _ ⟨_, _, _, _, _, _, _, rfl, _⟩; rfl) | (rintro _ _ ⟨_, _, _, _, _, _, _, _, rfl, _⟩; rfl) | (rintro _ _ ⟨_, _, _, _, _, _, _, _, _, rfl, _⟩; rfl)
theorem len_union_of : ∀ ts k, P_union_of ts k → ts.length = 2 := by
  first | (rintro _ _ ⟨_, rfl, _⟩; rfl) | (rintro _ _ ⟨_, _, rfl, _⟩; rfl) | (rintro _ _ ⟨_, _, _, rfl, _⟩; rfl) | (rintro _ _ ⟨_, _, _, _, rfl, _⟩; rfl) | (rintro _ _ ⟨_, _, _, _, _, rfl, _⟩; rfl) | (rintro _ _ ⟨_, _, _, _, _, _, rfl, _⟩; rfl) | (rintro _ _ ⟨_, _, _, _, _, _, _, rfl, _⟩; rfl) | (rintro _ _ ⟨_, _, _, _, _, _, _, _, rfl, _⟩; rfl) | (rintro _ _ ⟨_, _, _, _, _, _, _, _, _, rfl, _⟩; rfl)
theorem len_without : ∀ ts k, P_without ts k → ts.length = 2 := by
  first | (rintro _ _ ⟨_, rfl, _⟩; rfl) | (rintro _ _ ⟨_, _, rfl, _⟩; rfl) | (rintro _ _ ⟨_, _, _, rfl, _⟩; rfl) | (rintro _ _ ⟨_, _, _, _, rfl, _⟩; rfl) | (rintro _ _ ⟨_, _, _, _, _, rfl, _⟩; rfl) | (rintro _ _ ⟨_, _, _, _, _, _, rfl, _⟩; rfl) | (rintro _ _ ⟨_, _, _, _, _, _, _, rfl, _⟩; rfl) | (rintro _ _ ⟨_, _, _, _, _, _, _, _, rfl, _⟩; rfl) | (rintro _ _ ⟨_, _, _, _, _, _, _, _, _, rfl, _⟩; rfl)
theorem len_family_fault : ∀ ts k, P_family_fault ts k → ts.length = 2 := by
  first | (rintro _ _ ⟨_, rfl, _⟩; rfl) | (rintro _ _ ⟨_, _, rfl, _⟩; rfl) | (rintro _ _ ⟨_, _, _, rfl, _⟩; rfl) | (rintro _ _ ⟨_, _, _, _, rfl, _⟩; rfl) | (rintro _ _ ⟨_, _, _, _, _, rfl, _⟩; rfl) | (rintro _ _ ⟨_, _, _, _, _, _, rfl, _⟩; rfl) | (rintro _ _ ⟨_, _, _, _, _, _, _, rfl, _⟩; rfl) | (rintro _ _ ⟨_, _, _, _, _, _, _, _, rfl, _⟩; rfl) | (rintro _ _ ⟨_, _, _, _, _, _, _, _, _, rfl, _⟩; rfl)
theorem len__law_tape : ∀ ts k, P__law_tape ts k → ts.length = 1 := by
  first | (rintro _ _ ⟨_, rfl, _⟩; rfl) | (rintro _ _ ⟨_, _, rfl, _⟩; rfl) | (rintro _ _ ⟨_, _, _, rfl, _⟩; rfl) | (rintro _ _ ⟨_, _, _, _, rfl, _⟩; rfl) | (rintro _ _ ⟨_, _, _, _, _, rfl, _⟩; rfl) | (rintro _ _ ⟨_, _, _, _, _, _, rfl, _⟩; rfl) | (rintro _ _ ⟨_, _, _, _, _, _, _, rfl, _⟩; rfl) | (rintro _ _ ⟨_, _, _, _, _, _, _, _, rfl, _⟩; rfl) | (rintro _ _ ⟨_, _, _, _, _, _, _, _, _, rfl, _⟩; rfl)
theorem len__law_draw : ∀ ts tp k, P__law_draw ts tp k → ts.length + 1 = 2 := by
  first | (rintro _ _ _ ⟨_, rfl, _⟩; rfl) | (rintro _ _ _ ⟨_, _, rfl, _⟩; rfl) | (rintro _ _ _ ⟨_, _, _, rfl, _⟩; rfl) | (rintro _ _ _ ⟨_, _, _, _, rfl, _⟩; rfl) | (rintro _ _ _ ⟨_, _, _, _, _, rfl, _⟩; rfl) | (rintro _ _ _ ⟨_, _, _, _, _, _, rfl, _⟩; rfl) | (rintro _ _ _ ⟨_, _, _, _, _, _, _, rfl, _⟩; rfl) | (rintro _ _ _ ⟨_, _, _, _, _, _, _, _, rfl, _⟩; rfl) | (rintro _ _ _ ⟨_, _, _, _, _, _, _, _, _, rfl, _⟩; rfl)
theorem len__law_some : ∀ ts tp k, P__law_some ts tp k → ts.length + 1 = 3 := by
  first | (rintro _ _ _ ⟨_, rfl, _⟩; rfl) | (rintro _ _ _ ⟨_, _, rfl, _⟩; rfl) | (rintro _ _ _ ⟨_, _, _, rfl, _⟩; rfl) | (rintro _ _ _ ⟨_, _, _, _, rfl, _⟩; rfl) | (rintro _ _ _ ⟨_, _, _, _, _, rfl, _⟩; rfl) | (rintro _ _ _ ⟨_, _, _, _, _, _, rfl, _⟩; rfl) | (rintro _ _ _ ⟨_, _, _, _, _, _, _, rfl, _⟩; rfl) | (rintro _ _ _ ⟨_, _, _, _, _, _, _, _, rfl, _⟩; rfl) | (rintro _ _ _ ⟨_, _, _, _, _, _, _, _, _, rfl, _⟩; rfl)
theorem len__law_whole : ∀ ts k, P__law_whole ts k → ts.length = 1 := by
  first | (rintro _ _ ⟨_, rfl, _⟩; rfl) | (rintro _ _ ⟨_, _, rfl, _⟩; rfl) | (rintro _ _ ⟨_, _, _, rfl, _⟩; rfl) | (rintro _ _ ⟨_, _, _, _, rfl, _⟩; rfl) | (rintro _ _ ⟨_, _, _, _, _, rfl, _⟩; rfl) | (rintro _ _ ⟨_, _, _, _, _, _, rfl, _⟩; rfl) | (rintro _ _ ⟨_, _, _, _, _, _, _, rfl, _⟩; rfl) | (rintro _ _ ⟨_, _, _, _, _, _, _, _, rfl, _⟩; rfl) | (rintro _ _ ⟨_, _, _, _, _, _, _, _, _, rfl, _⟩; rfl)
theorem len__law_set : ∀ ts k, P__law_set ts k → ts.length = 2 := by
  first | (rintro _ _ ⟨_, rfl, _⟩; rfl) | (rintro _ _ ⟨_, _, rfl, _⟩; rfl) | (rintro _ _ ⟨_, _, _, rfl, _⟩; rfl) | (rintro _ _ ⟨_, _, _, _, rfl, _⟩; rfl) | (rintro _ _ ⟨_, _, _, _, _, rfl, _⟩; rfl) | (rintro _ _ ⟨_, _, _, _, _, _, rfl, _⟩; rfl) | (rintro _ _ ⟨_, _, _, _, _, _, _, rfl, _⟩; rfl) | (rintro _ _ ⟨_, _, _, _, _, _, _, _, rfl, _⟩; rfl) | (rintro _ _ ⟨_, _, _, _, _, _, _, _, _, rfl, _⟩; rfl)
theorem len__law_paper : ∀ ts k, P__law_paper ts k → ts.length = 5 := by
  first | (rintro _ _ ⟨_, rfl, _⟩; rfl) | (rintro _ _ ⟨_, _, rfl, _⟩; rfl) | (rintro _ _ ⟨_, _, _, rfl, _⟩; rfl) | (rintro _ _ ⟨_, _, _, _, rfl, _⟩; rfl) | (rintro _ _ ⟨_, _, _, _, _, rfl, _⟩; rfl) | (rintro _ _ ⟨_, _, _, _, _, _, rfl, _⟩; rfl) | (rintro _ _ ⟨_, _, _, _, _, _, _, rfl, _⟩; rfl) | (rintro _ _ ⟨_, _, _, _, _, _, _, _, rfl, _⟩; rfl) | (rintro _ _ ⟨_, _, _, _, _, _, _, _, _, rfl, _⟩; rfl)
theorem len__law_made : ∀ ts tp k, P__law_made ts tp k → ts.length + 1 = 5 := by
  first | (rintro _ _ _ ⟨_, rfl, _⟩; rfl) | (rintro _ _ _ ⟨_, _, rfl, _⟩; rfl) | (rintro _ _ _ ⟨_, _, _, rfl, _⟩; rfl) | (rintro _ _ _ ⟨_, _, _, _, rfl, _⟩; rfl) | (rintro _ _ _ ⟨_, _, _, _, _, rfl, _⟩; rfl) | (rintro _ _ _ ⟨_, _, _, _, _, _, rfl, _⟩; rfl) | (rintro _ _ _ ⟨_, _, _, _, _, _, _, rfl, _⟩; rfl) | (rintro _ _ _ ⟨_, _, _, _, _, _, _, _, rfl, _⟩; rfl) | (rintro _ _ _ ⟨_, _, _, _, _, _, _, _, _, rfl, _⟩; rfl)
theorem len__law_world : ∀ ts tp k, P__law_world ts tp k → ts.length + 1 = 4 := by
  first | (rintro _ _ _ ⟨_, rfl, _⟩; rfl) | (rintro _ _ _ ⟨_, _, rfl, _⟩; rfl) | (rintro _ _ _ ⟨_, _, _, rfl, _⟩; rfl) | (rintro _ _ _ ⟨_, _, _, _, rfl, _⟩; rfl) | (rintro _ _ _ ⟨_, _, _, _, _, rfl, _⟩; rfl) | (rintro _ _ _ ⟨_, _, _, _, _, _, rfl, _⟩; rfl) | (rintro _ _ _ ⟨_, _, _, _, _, _, _, rfl, _⟩; rfl) | (rintro _ _ _ ⟨_, _, _, _, _, _, _, _, rfl, _⟩; rfl) | (rintro _ _ _ ⟨_, _, _, _, _, _, _, _, _, rfl, _⟩; rfl)
theorem len__law_turned : ∀ ts k, P__law_turned ts k → ts.length = 4 := by
  first | (rintro _ _ ⟨_, rfl, _⟩; rfl) | (rintro _ _ ⟨_, _, rfl, _⟩; rfl) | (rintro _ _ ⟨_, _, _, rfl, _⟩; rfl) | (rintro _ _ ⟨_, _, _, _, rfl, _⟩; rfl) | (rintro _ _ ⟨_, _, _, _, _, rfl, _⟩; rfl) | (rintro _ _ ⟨_, _, _, _, _, _, rfl, _⟩; rfl) | (rintro _ _ ⟨_, _, _, _, _, _, _, rfl, _⟩; rfl) | (rintro _ _ ⟨_, _, _, _, _, _, _, _, rfl, _⟩; rfl) | (rintro _ _ ⟨_, _, _, _, _, _, _, _, _, rfl, _⟩; rfl)
theorem len__law_spoilt : ∀ ts tp k, P__law_spoilt ts tp k → ts.length + 1 = 5 := by
  first | (rintro _ _ _ ⟨_, rfl, _⟩; rfl) | (rintro _ _ _ ⟨_, _, rfl, _⟩; rfl) | (rintro _ _ _ ⟨_, _, _, rfl, _⟩; rfl) | (rintro _ _ _ ⟨_, _, _, _, rfl, _⟩; rfl) | (rintro _ _ _ ⟨_, _, _, _, _, rfl, _⟩; rfl) | (rintro _ _ _ ⟨_, _, _, _, _, _, rfl, _⟩; rfl) | (rintro _ _ _ ⟨_, _, _, _, _, _, _, rfl, _⟩; rfl) | (rintro _ _ _ ⟨_, _, _, _, _, _, _, _, rfl, _⟩; rfl) | (rintro _ _ _ ⟨_, _, _, _, _, _, _, _, _, rfl, _⟩; rfl)
theorem len__law_said : ∀ ts k, P__law_said ts k → ts.length = 2 := by
  first | (rintro _ _ ⟨_, rfl, _⟩; rfl) | (rintro _ _ ⟨_, _, rfl, _⟩; rfl) | (rintro _ _ ⟨_, _, _, rfl, _⟩; rfl) | (rintro _ _ ⟨_, _, _, _, rfl, _⟩; rfl) | (rintro _ _ ⟨_, _, _, _, _, rfl, _⟩; rfl) | (rintro _ _ ⟨_, _, _, _, _, _, rfl, _⟩; rfl) | (rintro _ _ ⟨_, _, _, _, _, _, _, rfl, _⟩; rfl) | (rintro _ _ ⟨_, _, _, _, _, _, _, _, rfl, _⟩; rfl) | (rintro _ _ ⟨_, _, _, _, _, _, _, _, _, rfl, _⟩; rfl)
theorem len__law_bars : ∀ ts tp k, P__law_bars ts tp k → ts.length + 1 = 2 := by
  first | (rintro _ _ _ ⟨_, rfl, _⟩; rfl) | (rintro _ _ _ ⟨_, _, rfl, _⟩; rfl) | (rintro _ _ _ ⟨_, _, _, rfl, _⟩; rfl) | (rintro _ _ _ ⟨_, _, _, _, rfl, _⟩; rfl) | (rintro _ _ _ ⟨_, _, _, _, _, rfl, _⟩; rfl) | (rintro _ _ _ ⟨_, _, _, _, _, _, rfl, _⟩; rfl) | (rintro _ _ _ ⟨_, _, _, _, _, _, _, rfl, _⟩; rfl) | (rintro _ _ _ ⟨_, _, _, _, _, _, _, _, rfl, _⟩; rfl) | (rintro _ _ _ ⟨_, _, _, _, _, _, _, _, _, rfl, _⟩; rfl)
theorem len__law_word : ∀ ts k, P__law_word ts k → ts.length = 6 := by
  first | (rintro _ _ ⟨_, rfl, _⟩; rfl) | (rintro _ _ ⟨_, _, rfl, _⟩; rfl) | (rintro _ _ ⟨_, _, _, rfl, _⟩; rfl) | (rintro _ _ ⟨_, _, _, _, rfl, _⟩; rfl) | (rintro _ _ ⟨_, _, _, _, _, rfl, _⟩; rfl) | (rintro _ _ ⟨_, _, _, _, _, _, rfl, _⟩; rfl) | (rintro _ _ ⟨_, _, _, _, _, _, _, rfl, _⟩; rfl) | (rintro _ _ ⟨_, _, _, _, _, _, _, _, rfl, _⟩; rfl) | (rintro _ _ ⟨_, _, _, _, _, _, _, _, _, rfl, _⟩; rfl)
theorem len__law_fences : ∀ ts tp k, P__law_fences ts tp k → ts.length + 1 = 2 := by
  first | (rintro _ _ _ ⟨_, rfl, _⟩; rfl) | (rintro _ _ _ ⟨_, _, rfl, _⟩; rfl) | (rintro _ _ _ ⟨_, _, _, rfl, _⟩; rfl) | (rintro _ _ _ ⟨_, _, _, _, rfl, _⟩; rfl) | (rintro _ _ _ ⟨_, _, _, _, _, rfl, _⟩; rfl) | (rintro _ _ _ ⟨_, _, _, _, _, _, rfl, _⟩; rfl) | (rintro _ _ _ ⟨_, _, _, _, _, _, _, rfl, _⟩; rfl) | (rintro _ _ _ ⟨_, _, _, _, _, _, _, _, rfl, _⟩; rfl) | (rintro _ _ _ ⟨_, _, _, _, _, _, _, _, _, rfl, _⟩; rfl)
theorem len__law_mask : ∀ ts k, P__law_mask ts k → ts.length = 1 := by
  first | (rintro _ _ ⟨_, rfl, _⟩; rfl) | (rintro _ _ ⟨_, _, rfl, _⟩; rfl) | (rintro _ _ ⟨_, _, _, rfl, _⟩; rfl) | (rintro _ _ ⟨_, _, _, _, rfl, _⟩; rfl) | (rintro _ _ ⟨_, _, _, _, _, rfl, _⟩; rfl) | (rintro _ _ ⟨_, _, _, _, _, _, rfl, _⟩; rfl) | (rintro _ _ ⟨_, _, _, _, _, _, _, rfl, _⟩; rfl) | (rintro _ _ ⟨_, _, _, _, _, _, _, _, rfl, _⟩; rfl) | (rintro _ _ ⟨_, _, _, _, _, _, _, _, _, rfl, _⟩; rfl)
theorem len__law_fault : ∀ ts k, P__law_fault ts k → ts.length = 2 := by
  first | (rintro _ _ ⟨_, rfl, _⟩; rfl) | (rintro _ _ ⟨_, _, rfl, _⟩; rfl) | (rintro _ _ ⟨_, _, _, rfl, _⟩; rfl) | (rintro _ _ ⟨_, _, _, _, rfl, _⟩; rfl) | (rintro _ _ ⟨_, _, _, _, _, rfl, _⟩; rfl) | (rintro _ _ ⟨_, _, _, _, _, _, rfl, _⟩; rfl) | (rintro _ _ ⟨_, _, _, _, _, _, _, rfl, _⟩; rfl) | (rintro _ _ ⟨_, _, _, _, _, _, _, _, rfl, _⟩; rfl) | (rintro _ _ ⟨_, _, _, _, _, _, _, _, _, rfl, _⟩; rfl)
theorem len__law_family : ∀ ts tp k, P__law_family ts tp k → ts.length + 1 = 3 := by
  first | (rintro _ _ _ ⟨_, rfl, _⟩; rfl) | (rintro _ _ _ ⟨_, _, rfl, _⟩; rfl) | (rintro _ _ _ ⟨_, _, _, rfl, _⟩; rfl) | (rintro _ _ _ ⟨_, _, _, _, rfl, _⟩; rfl) | (rintro _ _ _ ⟨_, _, _, _, _, rfl, _⟩; rfl) | (rintro _ _ _ ⟨_, _, _, _, _, _, rfl, _⟩; rfl) | (rintro _ _ _ ⟨_, _, _, _, _, _, _, rfl, _⟩; rfl) | (rintro _ _ _ ⟨_, _, _, _, _, _, _, _, rfl, _⟩; rfl) | (rintro _ _ _ ⟨_, _, _, _, _, _, _, _, _, rfl, _⟩; rfl)
theorem len__law_bent : ∀ ts tp k, P__law_bent ts tp k → ts.length + 1 = 3 := by
  first | (rintro _ _ _ ⟨_, rfl, _⟩; rfl) | (rintro _ _ _ ⟨_, _, rfl, _⟩; rfl) | (rintro _ _ _ ⟨_, _, _, rfl, _⟩; rfl) | (rintro _ _ _ ⟨_, _, _, _, rfl, _⟩; rfl) | (rintro _ _ _ ⟨_, _, _, _, _, rfl, _⟩; rfl) | (rintro _ _ _ ⟨_, _, _, _, _, _, rfl, _⟩; rfl) | (rintro _ _ _ ⟨_, _, _, _, _, _, _, rfl, _⟩; rfl) | (rintro _ _ _ ⟨_, _, _, _, _, _, _, _, rfl, _⟩; rfl) | (rintro _ _ _ ⟨_, _, _, _, _, _, _, _, _, rfl, _⟩; rfl)
theorem len__law_same : ∀ ts k, P__law_same ts k → ts.length = 2 := by
  first | (rintro _ _ ⟨_, rfl, _⟩; rfl) | (rintro _ _ ⟨_, _, rfl, _⟩; rfl) | (rintro _ _ ⟨_, _, _, rfl, _⟩; rfl) | (rintro _ _ ⟨_, _, _, _, rfl, _⟩; rfl) | (rintro _ _ ⟨_, _, _, _, _, rfl, _⟩; rfl) | (rintro _ _ ⟨_, _, _, _, _, _, rfl, _⟩; rfl) | (rintro _ _ ⟨_, _, _, _, _, _, _, rfl, _⟩; rfl) | (rintro _ _ ⟨_, _, _, _, _, _, _, _, rfl, _⟩; rfl) | (rintro _ _ ⟨_, _, _, _, _, _, _, _, _, rfl, _⟩; rfl)
theorem len__law_families : ∀ ts tp k, P__law_families ts tp k → ts.length + 1 = 2 := by
  first | (rintro _ _ _ ⟨_, rfl, _⟩; rfl) | (rintro _ _ _ ⟨_, _, rfl, _⟩; rfl) | (rintro _ _ _ ⟨_, _, _, rfl, _⟩; rfl) | (rintro _ _ _ ⟨_, _, _, _, rfl, _⟩; rfl) | (rintro _ _ _ ⟨_, _, _, _, _, rfl, _⟩; rfl) | (rintro _ _ _ ⟨_, _, _, _, _, _, rfl, _⟩; rfl) | (rintro _ _ _ ⟨_, _, _, _, _, _, _, rfl, _⟩; rfl) | (rintro _ _ _ ⟨_, _, _, _, _, _, _, _, rfl, _⟩; rfl) | (rintro _ _ _ ⟨_, _, _, _, _, _, _, _, _, rfl, _⟩; rfl)
theorem len_law : ∀ ts k, P_law ts k → ts.length = 1 := by
  first | (rintro _ _ ⟨_, rfl, _⟩; rfl) | (rintro _ _ ⟨_, _, rfl, _⟩; rfl) | (rintro _ _ ⟨_, _, _, rfl, _⟩; rfl) | (rintro _ _ ⟨_, _, _, _, rfl, _⟩; rfl) | (rintro _ _ ⟨_, _, _, _, _, rfl, _⟩; rfl) | (rintro _ _ ⟨_, _, _, _, _, _, rfl, _⟩; rfl) | (rintro _ _ ⟨_, _, _, _, _, _, _, rfl, _⟩; rfl) | (rintro _ _ ⟨_, _, _, _, _, _, _, _, rfl, _⟩; rfl) | (rintro _ _ ⟨_, _, _, _, _, _, _, _, _, rfl, _⟩; rfl)
theorem all_cal {P : Program} {w : World} {K : PySem.W.Frag} {mg : Str → Option Value} {base : Heap} {C fI : Addr} (bt : Bt mg) (T : Bad P w K mg base "BadStep" "word" C fI)
    {fis_integer : Addr} {dis_integer : FuncData} (Fis_integer : Fun K "is_integer" "is_integer" s_is_integer fis_integer dis_integer) (Mis_integer : mg "is_integer" = some (.ref fis_integer))
    {finteger_within : Addr} {dinteger_within : FuncData} (Finteger_within : Fun K "integer_within" "integer_within" s_integer_within finteger_within dinteger_within) (Minteger_within : mg "integer_within" = some (.ref finteger_within))
    {fare_ascending : Addr} {dare_ascending : FuncData} (Fare_ascending : Fun K "are_ascending" "are_ascending" s_are_ascending fare_ascending dare_ascending) (Mare_ascending : mg "are_ascending" = some (.ref fare_ascending))
    {fis_nowhere_worse : Addr} {dis_nowhere_worse : FuncData} (Fis_nowhere_worse : Fun K "is_nowhere_worse" "is_nowhere_worse" s_is_nowhere_worse fis_nowhere_worse dis_nowhere_worse) (Mis_nowhere_worse : mg "is_nowhere_worse" = some (.ref fis_nowhere_worse))
    {fare_row_papers : Addr} {dare_row_papers : FuncData} (Fare_row_papers : Fun K "are_row_papers" "are_row_papers" s_are_row_papers fare_row_papers dare_row_papers) (Mare_row_papers : mg "are_row_papers" = some (.ref fare_row_papers))
    {fis_row_bar : Addr} {dis_row_bar : FuncData} (Fis_row_bar : Fun K "is_row_bar" "is_row_bar" s_is_row_bar fis_row_bar dis_row_bar) (Mis_row_bar : mg "is_row_bar" = some (.ref fis_row_bar))
    {fis_fence_set : Addr} {dis_fence_set : FuncData} (Fis_fence_set : Fun K "is_fence_set" "is_fence_set" s_is_fence_set fis_fence_set dis_fence_set) (Mis_fence_set : mg "is_fence_set" = some (.ref fis_fence_set))
    {fare_sets : Addr} {dare_sets : FuncData} (Fare_sets : Fun K "are_sets" "are_sets" s_are_sets fare_sets dare_sets) (Mare_sets : mg "are_sets" = some (.ref fare_sets))
    {funion_of : Addr} {dunion_of : FuncData} (Funion_of : Fun K "union_of" "union_of" s_union_of funion_of dunion_of) (Munion_of : mg "union_of" = some (.ref funion_of))
    {fwithout : Addr} {dwithout : FuncData} (Fwithout : Fun K "without" "without" s_without fwithout dwithout) (Mwithout : mg "without" = some (.ref fwithout))
    {ffamily_fault : Addr} {dfamily_fault : FuncData} (Ffamily_fault : Fun K "family_fault" "family_fault" s_family_fault ffamily_fault dfamily_fault) (Mfamily_fault : mg "family_fault" = some (.ref ffamily_fault))
    {f_law_tape : Addr} {d_law_tape : FuncData} (F_law_tape : Fun K "_law_tape" "_law_tape" s__law_tape f_law_tape d_law_tape) (M_law_tape : mg "_law_tape" = some (.ref f_law_tape))
    {f_law_draw : Addr} {d_law_draw : FuncData} (F_law_draw : Fun K "_law_draw" "_law_draw" s__law_draw f_law_draw d_law_draw) (M_law_draw : mg "_law_draw" = some (.ref f_law_draw))
    {f_law_some : Addr} {d_law_some : FuncData} (F_law_some : Fun K "_law_some" "_law_some" s__law_some f_law_some d_law_some) (M_law_some : mg "_law_some" = some (.ref f_law_some))
    {f_law_whole : Addr} {d_law_whole : FuncData} (F_law_whole : Fun K "_law_whole" "_law_whole" s__law_whole f_law_whole d_law_whole) (M_law_whole : mg "_law_whole" = some (.ref f_law_whole))
    {f_law_set : Addr} {d_law_set : FuncData} (F_law_set : Fun K "_law_set" "_law_set" s__law_set f_law_set d_law_set) (M_law_set : mg "_law_set" = some (.ref f_law_set))
    {f_law_paper : Addr} {d_law_paper : FuncData} (F_law_paper : Fun K "_law_paper" "_law_paper" s__law_paper f_law_paper d_law_paper) (M_law_paper : mg "_law_paper" = some (.ref f_law_paper))
    {f_law_made : Addr} {d_law_made : FuncData} (F_law_made : Fun K "_law_made" "_law_made" s__law_made f_law_made d_law_made) (M_law_made : mg "_law_made" = some (.ref f_law_made))
    {f_law_world : Addr} {d_law_world : FuncData} (F_law_world : Fun K "_law_world" "_law_world" s__law_world f_law_world d_law_world) (M_law_world : mg "_law_world" = some (.ref f_law_world))
    {f_law_turned : Addr} {d_law_turned : FuncData} (F_law_turned : Fun K "_law_turned" "_law_turned" s__law_turned f_law_turned d_law_turned) (M_law_turned : mg "_law_turned" = some (.ref f_law_turned))
    {f_law_spoilt : Addr} {d_law_spoilt : FuncData} (F_law_spoilt : Fun K "_law_spoilt" "_law_spoilt" s__law_spoilt f_law_spoilt d_law_spoilt) (M_law_spoilt : mg "_law_spoilt" = some (.ref f_law_spoilt))
    {f_law_said : Addr} {d_law_said : FuncData} (F_law_said : Fun K "_law_said" "_law_said" s__law_said f_law_said d_law_said) (M_law_said : mg "_law_said" = some (.ref f_law_said))
    {f_law_bars : Addr} {d_law_bars : FuncData} (F_law_bars : Fun K "_law_bars" "_law_bars" s__law_bars f_law_bars d_law_bars) (M_law_bars : mg "_law_bars" = some (.ref f_law_bars))
    {f_law_word : Addr} {d_law_word : FuncData} (F_law_word : Fun K "_law_word" "_law_word" s__law_word f_law_word d_law_word) (M_law_word : mg "_law_word" = some (.ref f_law_word))
    {f_law_fences : Addr} {d_law_fences : FuncData} (F_law_fences : Fun K "_law_fences" "_law_fences" s__law_fences f_law_fences d_law_fences) (M_law_fences : mg "_law_fences" = some (.ref f_law_fences))
    {f_law_mask : Addr} {d_law_mask : FuncData} (F_law_mask : Fun K "_law_mask" "_law_mask" s__law_mask f_law_mask d_law_mask) (M_law_mask : mg "_law_mask" = some (.ref f_law_mask))
    {f_law_fault : Addr} {d_law_fault : FuncData} (F_law_fault : Fun K "_law_fault" "_law_fault" s__law_fault f_law_fault d_law_fault) (M_law_fault : mg "_law_fault" = some (.ref f_law_fault))
    {f_law_family : Addr} {d_law_family : FuncData} (F_law_family : Fun K "_law_family" "_law_family" s__law_family f_law_family d_law_family) (M_law_family : mg "_law_family" = some (.ref f_law_family))
    {f_law_bent : Addr} {d_law_bent : FuncData} (F_law_bent : Fun K "_law_bent" "_law_bent" s__law_bent f_law_bent d_law_bent) (M_law_bent : mg "_law_bent" = some (.ref f_law_bent))
    {f_law_same : Addr} {d_law_same : FuncData} (F_law_same : Fun K "_law_same" "_law_same" s__law_same f_law_same d_law_same) (M_law_same : mg "_law_same" = some (.ref f_law_same))
    {f_law_families : Addr} {d_law_families : FuncData} (F_law_families : Fun K "_law_families" "_law_families" s__law_families f_law_families d_law_families) (M_law_families : mg "_law_families" = some (.ref f_law_families))
    {fneed_sides : Addr} {dneed_sides : FuncData} (Fneed_sides : Fun K "need_sides" "need_sides" s_need fneed_sides dneed_sides) (Mneed_sides : mg "need_sides" = some (.ref fneed_sides))
    {fis_row_fence : Addr} {dis_row_fence : FuncData} (Fis_row_fence : Fun K "is_row_fence" "is_row_fence" s_fence fis_row_fence dis_row_fence) (Mis_row_fence : mg "is_row_fence" = some (.ref fis_row_fence))
    {f_law_step : Addr} {d_law_step : FuncData} (F_law_step : Fun K "_law_step" "_law_step" s_step f_law_step d_law_step) (M_law_step : mg "_law_step" = some (.ref f_law_step))
    {flaw : Addr} {dlaw : FuncData} (Flaw : Fun K "law" "law" s_law flaw dlaw)
    : FnOk P w K mg base CX0 9 flaw dlaw ["script"] (spP K P_law) := by
  have C_is_integer := tm_is_integer (P := P) (w := w) (base := base) bt Fis_integer Mis_integer (Fis_integer.binds (ps := ["thing"]) fun _ _ _ _ _ _ us hl => match us, hl with | [_], _ => rfl) r_is_integer len_is_integer
  have C_integer_within := tm_integer_within (P := P) (w := w) (base := base) bt Finteger_within Minteger_within (Finteger_within.binds (ps := ["thing", "low", "high"]) fun _ _ _ _ _ _ us hl => match us, hl with | [_, _, _], _ => rfl) C_is_integer r_integer_within len_integer_within
  have C_are_ascending := tm_are_ascending (P := P) (w := w) (base := base) bt Fare_ascending Mare_ascending (Fare_ascending.binds (ps := ["thing", "most"]) fun _ _ _ _ _ _ us hl => match us, hl with | [_, _], _ => rfl) C_integer_within r_are_ascending len_are_ascending
  have C_is_nowhere_worse := tm_is_nowhere_worse (P := P) (w := w) (base := base) bt Fis_nowhere_worse Mis_nowhere_worse (Fis_nowhere_worse.binds (ps := ["row", "rule", "inside"]) fun _ _ _ _ _ _ us hl => match us, hl with | [_, _, _], _ => rfl) r_is_nowhere_worse len_is_nowhere_worse
  have C_are_row_papers := tm_are_row_papers (P := P) (w := w) (base := base) bt Fare_row_papers Mare_row_papers (Fare_row_papers.binds (ps := ["rows", "rules", "inside", "thing"]) fun _ _ _ _ _ _ us hl => match us, hl with | [_, _, _, _], _ => rfl) C_integer_within C_is_nowhere_worse r_are_row_papers len_are_row_papers
  have C_is_row_bar := tm_is_row_bar (P := P) (w := w) (base := base) bt Fis_row_bar Mis_row_bar (Fis_row_bar.binds (ps := ["many", "rows", "thing"]) fun _ _ _ _ _ _ us hl => match us, hl with | [_, _, _], _ => rfl) C_are_ascending C_are_row_papers r_is_row_bar len_is_row_bar
  have C_is_fence_set := tm_is_fence_set (P := P) (w := w) (base := base) bt Fis_fence_set Mis_fence_set (Fis_fence_set.binds (ps := ["many", "upper", "lower", "thing"]) fun _ _ _ _ _ _ us hl => match us, hl with | [_, _, _, _], _ => rfl) C_are_ascending r_is_fence_set len_is_fence_set
  have C_are_sets := tm_are_sets (P := P) (w := w) (base := base) bt Fare_sets Mare_sets (Fare_sets.binds (ps := ["many", "thing"]) fun _ _ _ _ _ _ us hl => match us, hl with | [_, _], _ => rfl) C_are_ascending r_are_sets len_are_sets
  have C_union_of := tm_union_of (P := P) (w := w) (base := base) bt Funion_of Munion_of (Funion_of.binds (ps := ["one", "other"]) fun _ _ _ _ _ _ us hl => match us, hl with | [_, _], _ => rfl) r_union_of len_union_of
  have C_without := tm_without (P := P) (w := w) (base := base) bt Fwithout Mwithout (Fwithout.binds (ps := ["some", "rule"]) fun _ _ _ _ _ _ us hl => match us, hl with | [_, _], _ => rfl) r_without len_without
  have C_family_fault := tm_family_fault (P := P) (w := w) (base := base) bt Ffamily_fault Mfamily_fault (Ffamily_fault.binds (ps := ["many", "thing"]) fun _ _ _ _ _ _ us hl => match us, hl with | [_, _], _ => rfl) C_are_sets C_union_of C_without r_family_fault len_family_fault
  have C__law_tape := tm__law_tape (P := P) (w := w) (base := base) bt F_law_tape M_law_tape (F_law_tape.binds (ps := ["script"]) fun _ _ _ _ _ _ us hl => match us, hl with | [_], _ => rfl) r__law_tape len__law_tape
  have C__law_draw := tm__law_draw (P := P) (w := w) (base := base) bt F_law_draw M_law_draw (F_law_draw.binds (ps := ["tape", "many"]) fun _ _ _ _ _ _ us hl => match us, hl with | [_, _], _ => rfl) r__law_draw len__law_draw
  have C__law_some := tm__law_some (P := P) (w := w) (base := base) bt F_law_some M_law_some (F_law_some.binds (ps := ["tape", "pool", "least"]) fun _ _ _ _ _ _ us hl => match us, hl with | [_, _, _], _ => rfl) C__law_draw r__law_some len__law_some
  have C__law_whole := tm__law_whole (P := P) (w := w) (base := base) bt F_law_whole M_law_whole (F_law_whole.binds (ps := ["x"]) fun _ _ _ _ _ _ us hl => match us, hl with | [_], _ => rfl) r__law_whole len__law_whole
  have C__law_set := tm__law_set (P := P) (w := w) (base := base) bt F_law_set M_law_set (F_law_set.binds (ps := ["many", "rules"]) fun _ _ _ _ _ _ us hl => match us, hl with | [_, _], _ => rfl) C__law_whole r__law_set len__law_set
  have C__law_paper := tm__law_paper (P := P) (w := w) (base := base) bt F_law_paper M_law_paper (F_law_paper.binds (ps := ["many", "rows", "upper", "lower", "thing"]) fun _ _ _ _ _ _ us hl => match us, hl with | [_, _, _, _, _], _ => rfl) C__law_set C__law_whole r__law_paper len__law_paper
  have C__law_made := tm__law_made (P := P) (w := w) (base := base) bt F_law_made M_law_made (F_law_made.binds (ps := ["tape", "many", "upper", "rules", "size"]) fun _ _ _ _ _ _ us hl => match us, hl with | [_, _, _, _, _], _ => rfl) C__law_draw r__law_made len__law_made
  have C__law_world := tm__law_world (P := P) (w := w) (base := base) bt F_law_world M_law_world (F_law_world.binds (ps := ["tape", "many", "upper", "rules"]) fun _ _ _ _ _ _ us hl => match us, hl with | [_, _, _, _], _ => rfl) C__law_draw C__law_made r__law_world len__law_world
  have C__law_turned := tm__law_turned (P := P) (w := w) (base := base) bt F_law_turned M_law_turned (F_law_turned.binds (ps := ["rows", "at", "rule", "value"]) fun _ _ _ _ _ _ us hl => match us, hl with | [_, _, _, _], _ => rfl) r__law_turned len__law_turned
  have C__law_spoilt := tm__law_spoilt (P := P) (w := w) (base := base) bt F_law_spoilt M_law_spoilt (F_law_spoilt.binds (ps := ["tape", "many", "total", "paper", "nothing"]) fun _ _ _ _ _ _ us hl => match us, hl with | [_, _, _, _, _], _ => rfl) C__law_draw r__law_spoilt len__law_spoilt
  have C__law_said := tm__law_said (P := P) (w := w) (base := base) bt F_law_said M_law_said (F_law_said.binds (ps := ["told", "due"]) fun _ _ _ _ _ _ us hl => match us, hl with | [_, _], _ => rfl) r__law_said len__law_said
  have C__law_bars := tm__law_bars (P := P) (w := w) (base := base) bt F_law_bars M_law_bars (F_law_bars.binds (ps := ["tape", "many"]) fun _ _ _ _ _ _ us hl => match us, hl with | [_, _], _ => rfl) C__law_draw C__law_paper C__law_said C__law_some C__law_spoilt C__law_turned C__law_world C_is_row_bar r__law_bars len__law_bars
  have Bneed_sides := Fneed_sides.binds (ps := ["upper", "lower"]) fun _ _ _ _ _ _ us hl => match us, hl with | [_, _], _ => rfl
  have Bis_row_fence := Fis_row_fence.binds (ps := ["many", "rows", "upper", "lower", "thing"]) fun _ _ _ _ _ _ us hl => match us, hl with | [_, _, _, _, _], _ => rfl
  have Gf := ok_fence (P := P) (w := w) (base := base) bt T Fneed_sides Mneed_sides Bneed_sides Fis_row_fence C_is_fence_set C_are_row_papers
  have C_is_row_fence := cal_fence Gf Mis_row_fence Fis_row_fence.kp Bis_row_fence
  have C__law_step := cal_step T Gf Mis_row_fence Fis_row_fence.kp Bis_row_fence F_law_step M_law_step (F_law_step.binds (ps := ["many", "rows", "upper", "lower", "thing"]) fun _ _ _ _ _ _ us hl => match us, hl with | [_, _, _, _, _], _ => rfl)
  have C__law_word := tm__law_word (P := P) (w := w) (base := base) bt F_law_word M_law_word (F_law_word.binds (ps := ["many", "rows", "upper", "lower", "thing", "word"]) fun _ _ _ _ _ _ us hl => match us, hl with | [_, _, _, _, _, _], _ => rfl) C__law_step r__law_word len__law_word
  have C__law_fences := tm__law_fences (P := P) (w := w) (base := base) bt F_law_fences M_law_fences (F_law_fences.binds (ps := ["tape", "many"]) fun _ _ _ _ _ _ us hl => match us, hl with | [_, _], _ => rfl) C__law_draw C__law_paper C__law_said C__law_some C__law_spoilt C__law_turned C__law_word C__law_world C_is_row_fence r__law_fences len__law_fences
  have C__law_mask := tm__law_mask (P := P) (w := w) (base := base) bt F_law_mask M_law_mask (F_law_mask.binds (ps := ["some"]) fun _ _ _ _ _ _ us hl => match us, hl with | [_], _ => rfl) r__law_mask len__law_mask
  have C__law_fault := tm__law_fault (P := P) (w := w) (base := base) bt F_law_fault M_law_fault (F_law_fault.binds (ps := ["many", "thing"]) fun _ _ _ _ _ _ us hl => match us, hl with | [_, _], _ => rfl) C__law_mask C__law_set r__law_fault len__law_fault
  have C__law_family := tm__law_family (P := P) (w := w) (base := base) bt F_law_family M_law_family (F_law_family.binds (ps := ["tape", "many", "count"]) fun _ _ _ _ _ _ us hl => match us, hl with | [_, _, _], _ => rfl) C__law_draw r__law_family len__law_family
  have C__law_bent := tm__law_bent (P := P) (w := w) (base := base) bt F_law_bent M_law_bent (F_law_bent.binds (ps := ["tape", "many", "family"]) fun _ _ _ _ _ _ us hl => match us, hl with | [_, _, _], _ => rfl) C__law_draw C__law_some r__law_bent len__law_bent
  have C__law_same := tm__law_same (P := P) (w := w) (base := base) bt F_law_same M_law_same (F_law_same.binds (ps := ["told", "due"]) fun _ _ _ _ _ _ us hl => match us, hl with | [_, _], _ => rfl) C__law_whole r__law_same len__law_same
  have C__law_families := tm__law_families (P := P) (w := w) (base := base) bt F_law_families M_law_families (F_law_families.binds (ps := ["tape", "many"]) fun _ _ _ _ _ _ us hl => match us, hl with | [_, _], _ => rfl) C__law_bent C__law_draw C__law_family C__law_fault C__law_same C_family_fault r__law_families len__law_families
  exact fn_law bt Flaw C__law_bars C__law_draw C__law_families C__law_fences C__law_tape r_law len_law
theorem all_mk {P : Program} {w : World} {K : PySem.W.Frag} {h : Heap} {mg : Str → Option Value} {fa C R fI : Addr} (X : K.In h) (G : h.Ns mainGlobals mg) (hfa : mg "law" = some (.ref fa))
    {nm q : Str} {N : Addr} {bs : List Value} {sn : List Str} {sub : List Value} {ab : Bool} {col : Option Bool} {dd : Option Addr} {m0 m1 m2 m3 m5 : Option Value}
    (aC : PySem.W.nsIn K mainGlobals "BadStep" = some (some (.ref C)))
    (xL : K.lookup C = some (excClassObj nm q C N bs [.ref R, .type "ValueError", .type "Exception", .type "BaseException", .type "object"] true sn sub ab col dd m0 m1 m2 m3 m5 "ValueError.__new__"))
    (sa : PySem.W.findIn K (.ref C) "__setattr__" = some (some (.builtin "object.__setattr__"))) (ga : PySem.W.findIn K (.ref C) "__getattribute__" = some (some (.builtin "BaseException.__getattribute__"))) (gg : PySem.W.findIn K (.ref C) "__getattr__" = some none) (hd : PySem.W.hasDictIn K C = true) (nb : PySem.W.findIn K (.ref C) "word" = some none)
    (a1 : PySem.W.findIn K (.ref C) "__init__" = some (some (.ref fI))) (t1 : PySem.W.typeIn K (.ref fI) = some (.type "function"))
    {od1 an1 : Option Addr} {sl1 : Array (Option Value)} {oc1 dc1 pm1 cd1 ct1 kV1 : Value}
    (l1 : K.lookup fI = some ⟨oc1, od1, .func (PySem.W.fnOf "__init__" "BadStep.__init__" (defArgs s_init) (defBody s_init) (defScope s_init) .none kV1 dc1 pm1 an1 cd1 ct1), sl1⟩) (c1 : PySem.W.codeIn K cd1 "BadStep.__init__" = true) (k1 : PySem.W.keepIn K (.ref fI) = true)
    (kC : PySem.W.keepIn K (.ref C) = true) (eC : PySem.W.subIn K (.ref C) (.type "BaseException") = some true) (tC : PySem.W.typeIn K (.ref C) = some (.type "type")) (iC : PySem.W.isClsIn K C = true) (sC : PySem.W.subIn K (.ref C) (.ref C) = some true)
    {fis_integer : Addr} {dis_integer : FuncData} (Ais_integer : At K "is_integer" (topS 4) fis_integer dis_integer)
    {finteger_within : Addr} {dinteger_within : FuncData} (Ainteger_within : At K "integer_within" (topS 5) finteger_within dinteger_within)
    {fare_ascending : Addr} {dare_ascending : FuncData} (Aare_ascending : At K "are_ascending" (topS 6) fare_ascending dare_ascending)
    {fis_nowhere_worse : Addr} {dis_nowhere_worse : FuncData} (Ais_nowhere_worse : At K "is_nowhere_worse" (topS 8) fis_nowhere_worse dis_nowhere_worse)
    {fare_row_papers : Addr} {dare_row_papers : FuncData} (Aare_row_papers : At K "are_row_papers" (topS 9) fare_row_papers dare_row_papers)
    {fis_row_bar : Addr} {dis_row_bar : FuncData} (Ais_row_bar : At K "is_row_bar" (topS 10) fis_row_bar dis_row_bar)
    {fis_fence_set : Addr} {dis_fence_set : FuncData} (Ais_fence_set : At K "is_fence_set" (topS 13) fis_fence_set dis_fence_set)
    {fare_sets : Addr} {dare_sets : FuncData} (Aare_sets : At K "are_sets" (topS 16) fare_sets dare_sets)
    {funion_of : Addr} {dunion_of : FuncData} (Aunion_of : At K "union_of" (topS 17) funion_of dunion_of)
    {fwithout : Addr} {dwithout : FuncData} (Awithout : At K "without" (topS 18) fwithout dwithout)
    {ffamily_fault : Addr} {dfamily_fault : FuncData} (Afamily_fault : At K "family_fault" (topS 19) ffamily_fault dfamily_fault)
    {f_law_tape : Addr} {d_law_tape : FuncData} (A_law_tape : At K "_law_tape" (topS 21) f_law_tape d_law_tape)
    {f_law_draw : Addr} {d_law_draw : FuncData} (A_law_draw : At K "_law_draw" (topS 22) f_law_draw d_law_draw)
    {f_law_some : Addr} {d_law_some : FuncData} (A_law_some : At K "_law_some" (topS 23) f_law_some d_law_some)
    {f_law_whole : Addr} {d_law_whole : FuncData} (A_law_whole : At K "_law_whole" (topS 24) f_law_whole d_law_whole)
    {f_law_set : Addr} {d_law_set : FuncData} (A_law_set : At K "_law_set" (topS 25) f_law_set d_law_set)
    {f_law_paper : Addr} {d_law_paper : FuncData} (A_law_paper : At K "_law_paper" (topS 26) f_law_paper d_law_paper)
    {f_law_made : Addr} {d_law_made : FuncData} (A_law_made : At K "_law_made" (topS 27) f_law_made d_law_made)
    {f_law_world : Addr} {d_law_world : FuncData} (A_law_world : At K "_law_world" (topS 28) f_law_world d_law_world)
    {f_law_turned : Addr} {d_law_turned : FuncData} (A_law_turned : At K "_law_turned" (topS 29) f_law_turned d_law_turned)
    {f_law_spoilt : Addr} {d_law_spoilt : FuncData} (A_law_spoilt : At K "_law_spoilt" (topS 30) f_law_spoilt d_law_spoilt)
    {f_law_said : Addr} {d_law_said : FuncData} (A_law_said : At K "_law_said" (topS 31) f_law_said d_law_said)
    {f_law_bars : Addr} {d_law_bars : FuncData} (A_law_bars : At K "_law_bars" (topS 32) f_law_bars d_law_bars)
    {f_law_word : Addr} {d_law_word : FuncData} (A_law_word : At K "_law_word" (topS 34) f_law_word d_law_word)
    {f_law_fences : Addr} {d_law_fences : FuncData} (A_law_fences : At K "_law_fences" (topS 35) f_law_fences d_law_fences)
    {f_law_mask : Addr} {d_law_mask : FuncData} (A_law_mask : At K "_law_mask" (topS 36) f_law_mask d_law_mask)
    {f_law_fault : Addr} {d_law_fault : FuncData} (A_law_fault : At K "_law_fault" (topS 37) f_law_fault d_law_fault)
    {f_law_family : Addr} {d_law_family : FuncData} (A_law_family : At K "_law_family" (topS 38) f_law_family d_law_family)
    {f_law_bent : Addr} {d_law_bent : FuncData} (A_law_bent : At K "_law_bent" (topS 39) f_law_bent d_law_bent)
    {f_law_same : Addr} {d_law_same : FuncData} (A_law_same : At K "_law_same" (topS 40) f_law_same d_law_same)
    {f_law_families : Addr} {d_law_families : FuncData} (A_law_families : At K "_law_families" (topS 41) f_law_families d_law_families)
    {fneed_sides : Addr} {dneed_sides : FuncData} (Aneed_sides : At K "need_sides" (topS 12) fneed_sides dneed_sides)
    {fis_row_fence : Addr} {dis_row_fence : FuncData} (Ais_row_fence : At K "is_row_fence" (topS 14) fis_row_fence dis_row_fence)
    {f_law_step : Addr} {d_law_step : FuncData} (A_law_step : At K "_law_step" (topS 33) f_law_step d_law_step)
    {flaw : Addr} {dlaw : FuncData} (Alaw : At K "law" (topS 42) flaw dlaw)
    (z_len : PySem.W.nsIn K mainGlobals "len" = some none)
    (z_range : PySem.W.nsIn K mainGlobals "range" = some none)
    (z_tuple : PySem.W.nsIn K mainGlobals "tuple" = some none)
    (z_list : PySem.W.nsIn K mainGlobals "list" = some none)
    (z_int : PySem.W.nsIn K mainGlobals "int" = some none)
    (z_str : PySem.W.nsIn K mainGlobals "str" = some none)
    (z_bool : PySem.W.nsIn K mainGlobals "bool" = some none)
    (z_isinst : PySem.W.nsIn K mainGlobals "isinstance" = some none)
    (z_sorted : PySem.W.nsIn K mainGlobals "sorted" = some none)
    (z_enumerate : PySem.W.nsIn K mainGlobals "enumerate" = some none)
    (z_zip : PySem.W.nsIn K mainGlobals "zip" = some none)
    : ∃ fd : FuncData, (∀ (s : Shared) (v : Value), BindsTo s fd ⟨[v], []⟩ [("script", v)]) ∧ ∀ base : Heap, K.In base → base.Ns mainGlobals mg → FnOk P w K mg base CX0 9 fa fd ["script"] (spP K P_law) := by
  have e := hfa.symm.trans (PySem.W.mg_of X G Alaw.g)
  cases e
  have bt : Bt mg := ⟨PySem.W.mg_none_of X G z_len, PySem.W.mg_none_of X G z_range, PySem.W.mg_none_of X G z_tuple, PySem.W.mg_none_of X G z_list, PySem.W.mg_none_of X G z_int, PySem.W.mg_none_of X G z_str, PySem.W.mg_none_of X G z_bool, PySem.W.mg_none_of X G z_isinst, PySem.W.mg_none_of X G z_sorted, PySem.W.mg_none_of X G z_enumerate, PySem.W.mg_none_of X G z_zip⟩
  have FI : Fun K "__init__" "BadStep.__init__" s_init fI _ := fun_mk l1 c1 k1
  have bI : Binds K _ ["self", "word"] [] := FI.binds (ps := ["self", "word"]) fun _ _ _ _ _ _ us hl => match us, hl with | [_, _], _ => rfl
  have ox : OexC K C := ⟨⟨nm, q, N, bs, _, sn, sub, ab, col, dd, m0, m1, m2, m3, m5, xL, rfl⟩, sa, eC, tC, kC⟩
  have xfC : XfC K C := ⟨ga, gg, eC, hd⟩
  have te := exm_self eC iC tC sC
  obtain ⟨oc, od, kV, doc, pm, an, cdv, ct, osl, efd, lk, hcd⟩ := Alaw.f.ex
  subst efd
  refine ⟨PySem.W.fnOf "law" "law" (defArgs s_law) (defBody s_law) (defScope s_law) .none kV doc pm an cdv ct, fun s v => .of_eq rfl, fun base _ _ => ?_⟩
  have T : Bad P w K mg base "BadStep" "word" C fI := ⟨PySem.W.mg_of X G aC, ox, xfC, nb, a1, t1, te, _, ok_init (x := "BadStep") (by decide) FI sc_init rfl ox nb (Or.inl rfl) (Or.inl rfl) (by decide) (by decide) (fun _ => rfl), bI⟩
  exact all_cal bt T Ais_integer.f (PySem.W.mg_of X G Ais_integer.g) Ainteger_within.f (PySem.W.mg_of X G Ainteger_within.g) Aare_ascending.f (PySem.W.mg_of X G Aare_ascending.g) Ais_nowhere_worse.f (PySem.W.mg_of X G Ais_nowhere_worse.g) Aare_row_papers.f (PySem.W.mg_of X G Aare_row_papers.g) Ais_row_bar.f (PySem.W.mg_of X G Ais_row_bar.g) Ais_fence_set.f (PySem.W.mg_of X G Ais_fence_set.g) Aare_sets.f (PySem.W.mg_of X G Aare_sets.g) Aunion_of.f (PySem.W.mg_of X G Aunion_of.g) Awithout.f (PySem.W.mg_of X G Awithout.g) Afamily_fault.f (PySem.W.mg_of X G Afamily_fault.g) A_law_tape.f (PySem.W.mg_of X G A_law_tape.g) A_law_draw.f (PySem.W.mg_of X G A_law_draw.g) A_law_some.f (PySem.W.mg_of X G A_law_some.g) A_law_whole.f (PySem.W.mg_of X G A_law_whole.g) A_law_set.f (PySem.W.mg_of X G A_law_set.g) A_law_paper.f (PySem.W.mg_of X G A_law_paper.g) A_law_made.f (PySem.W.mg_of X G A_law_made.g) A_law_world.f (PySem.W.mg_of X G A_law_world.g) A_law_turned.f (PySem.W.mg_of X G A_law_turned.g) A_law_spoilt.f (PySem.W.mg_of X G A_law_spoilt.g) A_law_said.f (PySem.W.mg_of X G A_law_said.g) A_law_bars.f (PySem.W.mg_of X G A_law_bars.g) A_law_word.f (PySem.W.mg_of X G A_law_word.g) A_law_fences.f (PySem.W.mg_of X G A_law_fences.g) A_law_mask.f (PySem.W.mg_of X G A_law_mask.g) A_law_fault.f (PySem.W.mg_of X G A_law_fault.g) A_law_family.f (PySem.W.mg_of X G A_law_family.g) A_law_bent.f (PySem.W.mg_of X G A_law_bent.g) A_law_same.f (PySem.W.mg_of X G A_law_same.g) A_law_families.f (PySem.W.mg_of X G A_law_families.g) Aneed_sides.f (PySem.W.mg_of X G Aneed_sides.g) Ais_row_fence.f (PySem.W.mg_of X G Ais_row_fence.g) A_law_step.f (PySem.W.mg_of X G A_law_step.g) Alaw.f
end Pf

open PySem PySem.W PyProof.Rows
set_option maxHeartbeats 0 in
theorem PySem.Challenge.cw_nowhereworse_k92_spoilt_rows_holds : PySem.Challenge.rw_nowhereworse_k92_spoilt_rows.Holds := by
  w_on; o_law; k_head; (case hw => w_witness2)
  k_fill
  refine L2.walk_of (l := PySem.Challenge.rw_nowhereworse_k92_spoilt_rows) (n := 63) (k := 9) (x := "script") (CX := fun _ => L2.CX0) (sp := fun w => TL.spP _ Pf.P_law) rfl (by decide) rfl ⟨rfl, by decide, by decide⟩ (fun w h Y => PySem.W.kIn_of Y) ?F (fun _ _ a ns hl _ hS => Pf.start_law hl hS) (fun _ _ _ _ _ h => h)
  case F =>
    intro w mg fa h KX G hmg
    refine' Pf.all_mk KX G hmg ?aC ?xL ?sa ?ga ?gg ?hd ?nb ?a1 ?t1 ?l1 ?c1 ?k1 ?kC ?eC ?tC ?iC ?sC (Pf.at_mk ?a_is_integer ?l_is_integer ?c_is_integer ?k_is_integer) (Pf.at_mk ?a_integer_within ?l_integer_within ?c_integer_within ?k_integer_within) (Pf.at_mk ?a_are_ascending ?l_are_ascending ?c_are_ascending ?k_are_ascending) (Pf.at_mk ?a_is_nowhere_worse ?l_is_nowhere_worse ?c_is_nowhere_worse ?k_is_nowhere_worse) (Pf.at_mk ?a_are_row_papers ?l_are_row_papers ?c_are_row_papers ?k_are_row_papers) (Pf.at_mk ?a_is_row_bar ?l_is_row_bar ?c_is_row_bar ?k_is_row_bar) (Pf.at_mk ?a_is_fence_set ?l_is_fence_set ?c_is_fence_set ?k_is_fence_set) (Pf.at_mk ?a_are_sets ?l_are_sets ?c_are_sets ?k_are_sets) (Pf.at_mk ?a_union_of ?l_union_of ?c_union_of ?k_union_of) (Pf.at_mk ?a_without ?l_without ?c_without ?k_without) (Pf.at_mk ?a_family_fault ?l_family_fault ?c_family_fault ?k_family_fault) (Pf.at_mk ?a__law_tape ?l__law_tape ?c__law_tape ?k__law_tape) (Pf.at_mk ?a__law_draw ?l__law_draw ?c__law_draw ?k__law_draw) (Pf.at_mk ?a__law_some ?l__law_some ?c__law_some ?k__law_some) (Pf.at_mk ?a__law_whole ?l__law_whole ?c__law_whole ?k__law_whole) (Pf.at_mk ?a__law_set ?l__law_set ?c__law_set ?k__law_set) (Pf.at_mk ?a__law_paper ?l__law_paper ?c__law_paper ?k__law_paper) (Pf.at_mk ?a__law_made ?l__law_made ?c__law_made ?k__law_made) (Pf.at_mk ?a__law_world ?l__law_world ?c__law_world ?k__law_world) (Pf.at_mk ?a__law_turned ?l__law_turned ?c__law_turned ?k__law_turned) (Pf.at_mk ?a__law_spoilt ?l__law_spoilt ?c__law_spoilt ?k__law_spoilt) (Pf.at_mk ?a__law_said ?l__law_said ?c__law_said ?k__law_said) (Pf.at_mk ?a__law_bars ?l__law_bars ?c__law_bars ?k__law_bars) (Pf.at_mk ?a__law_word ?l__law_word ?c__law_word ?k__law_word) (Pf.at_mk ?a__law_fences ?l__law_fences ?c__law_fences ?k__law_fences) (Pf.at_mk ?a__law_mask ?l__law_mask ?c__law_mask ?k__law_mask) (Pf.at_mk ?a__law_fault ?l__law_fault ?c__law_fault ?k__law_fault) (Pf.at_mk ?a__law_family ?l__law_family ?c__law_family ?k__law_family) (Pf.at_mk ?a__law_bent ?l__law_bent ?c__law_bent ?k__law_bent) (Pf.at_mk ?a__law_same ?l__law_same ?c__law_same ?k__law_same) (Pf.at_mk ?a__law_families ?l__law_families ?c__law_families ?k__law_families) (Pf.at_mk ?a_need_sides ?l_need_sides ?c_need_sides ?k_need_sides) (Pf.at_mk ?a_is_row_fence ?l_is_row_fence ?c_is_row_fence ?k_is_row_fence) (Pf.at_mk ?a__law_step ?l__law_step ?c__law_step ?k__law_step) (Pf.at_mk ?a_law ?l_law ?c_law ?k_law) ?z_len ?z_range ?z_tuple ?z_list ?z_int ?z_str ?z_bool ?z_isinst ?z_sorted ?z_enumerate ?z_zip
    (case aC => k_is)
    (case xL => k_is)
    (case sa => k_is)
    (case ga => k_is)
    (case gg => k_is)
    (case hd => k_is)
    (case nb => k_is)
    (case a1 => k_is)
    (case t1 => k_is)
    (case l1 => k_is)
    (case c1 => k_is)
    (case k1 => k_is)
    (case kC => k_is)
    (case eC => k_is)
    (case tC => k_is)
    (case iC => k_is)
    (case sC => first | rfl | k_is)
    (case a_is_integer => k_is); (case l_is_integer => k_is); (case c_is_integer => k_is); (case k_is_integer => k_is)
    (case a_integer_within => k_is); (case l_integer_within => k_is); (case c_integer_within => k_is); (case k_integer_within => k_is)
    (case a_are_ascending => k_is); (case l_are_ascending => k_is); (case c_are_ascending => k_is); (case k_are_ascending => k_is)
    (case a_is_nowhere_worse => k_is); (case l_is_nowhere_worse => k_is); (case c_is_nowhere_worse => k_is); (case k_is_nowhere_worse => k_is)
    (case a_are_row_papers => k_is); (case l_are_row_papers => k_is); (case c_are_row_papers => k_is); (case k_are_row_papers => k_is)
    (case a_is_row_bar => k_is); (case l_is_row_bar => k_is); (case c_is_row_bar => k_is); (case k_is_row_bar => k_is)
    (case a_is_fence_set => k_is); (case l_is_fence_set => k_is); (case c_is_fence_set => k_is); (case k_is_fence_set => k_is)
    (case a_are_sets => k_is); (case l_are_sets => k_is); (case c_are_sets => k_is); (case k_are_sets => k_is)
    (case a_union_of => k_is); (case l_union_of => k_is); (case c_union_of => k_is); (case k_union_of => k_is)
    (case a_without => k_is); (case l_without => k_is); (case c_without => k_is); (case k_without => k_is)
    (case a_family_fault => k_is); (case l_family_fault => k_is); (case c_family_fault => k_is); (case k_family_fault => k_is)
    (case a__law_tape => k_is); (case l__law_tape => k_is); (case c__law_tape => k_is); (case k__law_tape => k_is)
    (case a__law_draw => k_is); (case l__law_draw => k_is); (case c__law_draw => k_is); (case k__law_draw => k_is)
    (case a__law_some => k_is); (case l__law_some => k_is); (case c__law_some => k_is); (case k__law_some => k_is)
    (case a__law_whole => k_is); (case l__law_whole => k_is); (case c__law_whole => k_is); (case k__law_whole => k_is)
    (case a__law_set => k_is); (case l__law_set => k_is); (case c__law_set => k_is); (case k__law_set => k_is)
    (case a__law_paper => k_is); (case l__law_paper => k_is); (case c__law_paper => k_is); (case k__law_paper => k_is)
    (case a__law_made => k_is); (case l__law_made => k_is); (case c__law_made => k_is); (case k__law_made => k_is)
    (case a__law_world => k_is); (case l__law_world => k_is); (case c__law_world => k_is); (case k__law_world => k_is)
    (case a__law_turned => k_is); (case l__law_turned => k_is); (case c__law_turned => k_is); (case k__law_turned => k_is)
    (case a__law_spoilt => k_is); (case l__law_spoilt => k_is); (case c__law_spoilt => k_is); (case k__law_spoilt => k_is)
    (case a__law_said => k_is); (case l__law_said => k_is); (case c__law_said => k_is); (case k__law_said => k_is)
    (case a__law_bars => k_is); (case l__law_bars => k_is); (case c__law_bars => k_is); (case k__law_bars => k_is)
    (case a__law_word => k_is); (case l__law_word => k_is); (case c__law_word => k_is); (case k__law_word => k_is)
    (case a__law_fences => k_is); (case l__law_fences => k_is); (case c__law_fences => k_is); (case k__law_fences => k_is)
    (case a__law_mask => k_is); (case l__law_mask => k_is); (case c__law_mask => k_is); (case k__law_mask => k_is)
    (case a__law_fault => k_is); (case l__law_fault => k_is); (case c__law_fault => k_is); (case k__law_fault => k_is)
    (case a__law_family => k_is); (case l__law_family => k_is); (case c__law_family => k_is); (case k__law_family => k_is)
    (case a__law_bent => k_is); (case l__law_bent => k_is); (case c__law_bent => k_is); (case k__law_bent => k_is)
    (case a__law_same => k_is); (case l__law_same => k_is); (case c__law_same => k_is); (case k__law_same => k_is)
    (case a__law_families => k_is); (case l__law_families => k_is); (case c__law_families => k_is); (case k__law_families => k_is)
    (case a_need_sides => k_is); (case l_need_sides => k_is); (case c_need_sides => k_is); (case k_need_sides => k_is)
    (case a_is_row_fence => k_is); (case l_is_row_fence => k_is); (case c_is_row_fence => k_is); (case k_is_row_fence => k_is)
    (case a__law_step => k_is); (case l__law_step => k_is); (case c__law_step => k_is); (case k__law_step => k_is)
    (case a_law => k_is); (case l_law => k_is); (case c_law => k_is); (case k_law => k_is)
    (case z_len => k_is)
    (case z_range => k_is)
    (case z_tuple => k_is)
    (case z_list => k_is)
    (case z_int => k_is)
    (case z_str => k_is)
    (case z_bool => k_is)
    (case z_isinst => k_is)
    (case z_sorted => k_is)
    (case z_enumerate => k_is)
    (case z_zip => k_is)
